import PyProof.Rows.All
import HandS.ForMost
import HandS.ForExc
import HandS.TryMany
import HandS.ExcInit
import HandS.ExcField
import HandS.ExcIs
import HandS.IsInst
import HandS.Wide
import HandS.SortInts
import HandS.Style
import HandS.Flow
import HandS.TupAny
import HandS.TupLe
import HandS.Conv
import HandS.Zip
import HandS.Walk
import HandS.ExcOwn
import KE.KExcIs
import PyProof.WalksMore
import PyProof.SumWalkG
import PyProof.MinMaxWalk
import HandS.TupMul
import HandS.SetFor
import HandS.Strs
import PyProof.ListRange
import KE.GoesMore
import PySem.Challenge.RW_lastisdone_k00_lots_hour_by_hour
set_option Elab.async false
set_option linter.all false
set_option maxRecDepth 100000
set_option maxHeartbeats 2000000
namespace Mw
open PySem L2

/-! ## data, slots, results -/
abbrev D := PyData
inductive Sl where
  | un
  | fro (d : D)
  | own (ds : List D)
  | bor (ds : List D)
  | exc (c : Nat) (f : Str) (p : D)
  | scr (ns : List Int)
inductive EV where
  | fro (d : D)
  | own (ds : List D)
  | var (i : Nat)
inductive Res (α : Type) where
  | ok (a : α)
  | exn (c : Nat) (f : Str) (p : D) (g : List Sl)
  | stuck
abbrev SM (α : Type) := List Sl → Res (α × List Sl)
def ret {α : Type} (a : α) : SM α := fun g => .ok (a, g)
def bnd {α β : Type} (m : SM α) (f : α → SM β) : SM β := fun g =>
  match m g with
  | .ok (a, g') => f a g'
  | .exn c x p g' => .exn c x p g'
  | .stuck => .stuck
def lift {α : Type} (o : Option α) : SM α := fun g => match o with
  | some a => .ok (a, g)
  | none => .stuck
def Post {α : Type} (ok : α → List Sl → Prop) (ex : Nat → Str → D → List Sl → Prop) : Res (α × List Sl) → Prop
  | .ok (a, g) => ok a g
  | .exn c f p g => ex c f p g
  | .stuck => False
theorem post_bnd {α β : Type} {m : SM α} {f : α → SM β} {g : List Sl} {ok : β → List Sl → Prop} {ex : Nat → Str → D → List Sl → Prop} :
    Post ok ex (bnd m f g) ↔ Post (fun a g' => Post ok ex (f a g')) ex (m g) := by
  unfold bnd
  cases m g with
  | ok a => obtain ⟨a, g'⟩ := a; exact Iff.rfl
  | exn c x p g' => exact Iff.rfl
  | stuck => exact Iff.rfl
theorem post_mono {α : Type} {ok ok' : α → List Sl → Prop} {ex ex' : Nat → Str → D → List Sl → Prop} {r : Res (α × List Sl)}
    (h : Post ok ex r) (h1 : ∀ a g, ok a g → ok' a g) (h2 : ∀ c f p g, ex c f p g → ex' c f p g) : Post ok' ex' r := by
  cases r with
  | ok a => obtain ⟨a, g'⟩ := a; exact h1 _ _ h
  | exn c x p g' => exact h2 _ _ _ _ h
  | stuck => exact h.elim
theorem post_lift {α : Type} {o : Option α} {g : List Sl} {ok : α → List Sl → Prop} {ex : Nat → Str → D → List Sl → Prop} (h : Post ok ex (lift o g)) : ∃ a, o = some a ∧ ok a g := by
  cases o with
  | none => exact h.elim
  | some a => exact ⟨a, rfl, h⟩

/-! ## heaps -/
theorem same_new {H : Hp} {p : Addr} {o : HO} (h : H p = none) : Same H (upd H p o) := fun b x e => by
  rw [upd_ne (ne_of_none e h)]; exact e
theorem same_upd2 {Z H : Hp} {p : Addr} {o : HO} (s : Same Z H) (z : Z p = none) : Same (upd Z p o) (upd H p o) := fun b x e => by
  by_cases hb : b = p
  · subst hb; rw [upd_same] at e ⊢; exact e
  · rw [upd_ne hb] at e ⊢; exact s b x e
theorem same_in {Z H : Hp} {p : Addr} {o : HO} (s : Same Z H) (h : H p = some o) : Same (upd Z p o) H := fun b x e => by
  by_cases hb : b = p
  · subst hb; rw [upd_same] at e; cases e; exact h
  · rw [upd_ne hb] at e; exact s b x e
theorem same_out {Z H : Hp} {p : Addr} {o : HO} (s : Same Z H) (z : Z p = none) : Same Z (upd H p o) := fun b x e => by
  rw [upd_ne (ne_of_none e z)]; exact s b x e
theorem seqT {K : PySem.W.Frag} {H H' : Hp} {a : Addr} {xs : List V} (e : Same H H') (h : SqT K H a xs) : SqT K H' a xs := by
  rcases h with h | h
  · left
    rcases h with h | ⟨o, h⟩
    · exact .inl (e _ _ h)
    · exact .inr ⟨o, e _ _ h⟩
  · exact .inr h
mutual
inductive Dq (K : PySem.W.Frag) (H : Hp) : V → D → Prop
  | non : Dq K H .non .none
  | bl (b : Bool) : Dq K H (.bl b) (.bool b)
  | int (i : Int) : Dq K H (.int i) (.int i)
  | str (x : Str) : Dq K H (.str x) (.str x)
  | lst {a : Addr} {xs : List V} {ds : List D} : H a = some (.lst xs) → DqAll K H xs ds → Dq K H (.ref a) (.list ds)
  | tup {a : Addr} {xs : List V} {ds : List D} : SqT K H a xs → DqAll K H xs ds → Dq K H (.ref a) (.tuple ds)
inductive DqAll (K : PySem.W.Frag) (H : Hp) : List V → List D → Prop
  | nil : DqAll K H [] []
  | cons {v : V} {vs : List V} {d : D} {ds : List D} : Dq K H v d → DqAll K H vs ds → DqAll K H (v :: vs) (d :: ds)
end
mutual
theorem dqD {K : PySem.W.Frag} {H : Hp} : ∀ {d : D} {v : V}, Dq K H v d → Dp K H v d
  | .none, _, h => by cases h; exact .non
  | .bool _, _, h => by cases h; exact .bl _
  | .int _, _, h => by cases h; exact .int _
  | .str _, _, h => by cases h; exact .str _
  | .list ds, _, h => by
    cases h with
    | lst hs ha => exact .lst (SqL.of hs) (dqAD ha)
  | .tuple ds, _, h => by
    cases h with
    | tup hs ha => exact .tup hs (dqAD ha)
  | .dict _, _, h => by cases h
theorem dqAD {K : PySem.W.Frag} {H : Hp} : ∀ {ds : List D} {vs : List V}, DqAll K H vs ds → DpAll K H vs ds
  | [], _, h => by cases h; exact .nil
  | d :: ds, _, h => by
    cases h with
    | cons h1 h2 => exact .cons (dqD h1) (dqAD h2)
end
mutual
theorem dpM {K : PySem.W.Frag} {H H' : Hp} (e : Same H H') : ∀ {d : D} {v : V}, Dq K H v d → Dq K H' v d
  | .none, _, h => by cases h; exact .non
  | .bool _, _, h => by cases h; exact .bl _
  | .int _, _, h => by cases h; exact .int _
  | .str _, _, h => by cases h; exact .str _
  | .list ds, _, h => by
    cases h with
    | lst hs ha => exact .lst (e _ _ hs) (dpAM e ha)
  | .tuple ds, _, h => by
    cases h with
    | tup hs ha => exact .tup (seqT e hs) (dpAM e ha)
  | .dict _, _, h => by cases h
theorem dpAM {K : PySem.W.Frag} {H H' : Hp} (e : Same H H') : ∀ {ds : List D} {vs : List V}, DqAll K H vs ds → DqAll K H' vs ds
  | [], _, h => by cases h; exact .nil
  | d :: ds, _, h => by
    cases h with
    | cons h1 h2 => exact .cons (dpM e h1) (dpAM e h2)
end
theorem dpA_len {K : PySem.W.Frag} {H : Hp} : ∀ {ds : List D} {vs : List V}, DqAll K H vs ds → vs.length = ds.length
  | [], _, h => by cases h; rfl
  | d :: ds, _, h => by
    cases h with
    | cons h1 h2 => rw [List.length_cons, List.length_cons, dpA_len h2]
theorem dpA_app {K : PySem.W.Frag} {H : Hp} : ∀ {ds es : List D} {vs ws : List V}, DqAll K H vs ds → DqAll K H ws es → DqAll K H (vs ++ ws) (ds ++ es)
  | [], _, _, _, h, h' => by cases h; exact h'
  | d :: ds, _, _, _, h, h' => by
    cases h with
    | cons h1 h2 => exact .cons h1 (dpA_app h2 h')
theorem dpA_get {K : PySem.W.Frag} {H : Hp} : ∀ {ds : List D} {vs : List V} {i : Nat} {d : D}, DqAll K H vs ds → ds[i]? = some d → ∃ v, vs[i]? = some v ∧ Dq K H v d
  | [], _, _, _, _, e => by simp at e
  | x :: ds, _, 0, d, h, e => by
    cases h with
    | cons h1 h2 =>
      have : x = d := Option.some.inj e
      subst this
      exact ⟨_, rfl, h1⟩
  | x :: ds, _, i + 1, d, h, e => by
    cases h with
    | cons h1 h2 =>
      obtain ⟨v, e1, r⟩ := dpA_get (i := i) (d := d) h2 (by simpa using e)
      exact ⟨v, by simpa using e1, r⟩
theorem dpA_gi {K : PySem.W.Frag} {H : Hp} {ds : List D} {vs : List V} {i : Nat} {v : V} (h : DqAll K H vs ds) (e : vs[i]? = some v) : ∃ d, ds[i]? = some d ∧ Dq K H v d := by
  have hl := dpA_len h
  obtain ⟨hi, _⟩ := List.getElem?_eq_some_iff.mp e
  have hd : i < ds.length := by omega
  obtain ⟨w, e1, r⟩ := dpA_get (d := ds[i]) h (List.getElem?_eq_getElem hd)
  rw [e] at e1; cases e1
  exact ⟨_, List.getElem?_eq_getElem hd, r⟩
theorem dpA_set {K : PySem.W.Frag} {H : Hp} {d : D} {v : V} (r : Dq K H v d) : ∀ {ds : List D} {vs : List V} (i : Nat), DqAll K H vs ds → DqAll K H (vs.set i v) (ds.set i d)
  | [], _, _, h => by cases h; exact .nil
  | x :: ds, _, 0, h => by
    cases h with
    | cons h1 h2 => exact .cons r h2
  | x :: ds, _, i + 1, h => by
    cases h with
    | cons h1 h2 => exact .cons h1 (dpA_set r i h2)
theorem dpA_take {K : PySem.W.Frag} {H : Hp} : ∀ {ds : List D} {vs : List V} (n : Nat), DqAll K H vs ds → DqAll K H (vs.take n) (ds.take n)
  | _, _, 0, _ => by rw [List.take_zero, List.take_zero]; exact .nil
  | [], _, _ + 1, h => by cases h; exact .nil
  | d :: ds, _, n + 1, h => by
    cases h with
    | cons h1 h2 => exact .cons h1 (dpA_take n h2)
theorem dpA_drop {K : PySem.W.Frag} {H : Hp} : ∀ {ds : List D} {vs : List V} (n : Nat), DqAll K H vs ds → DqAll K H (vs.drop n) (ds.drop n)
  | _, _, 0, h => h
  | [], _, _ + 1, h => by cases h; exact .nil
  | d :: ds, _, n + 1, h => by
    cases h with
    | cons h1 h2 => exact dpA_drop n h2
theorem dpA_rev {K : PySem.W.Frag} {H : Hp} : ∀ {ds : List D} {vs : List V}, DqAll K H vs ds → DqAll K H vs.reverse ds.reverse
  | [], _, h => by cases h; exact .nil
  | d :: ds, _, h => by
    cases h with
    | cons h1 h2 =>
      rw [List.reverse_cons, List.reverse_cons]
      exact dpA_app (dpA_rev h2) (.cons h1 .nil)
theorem dpA_ints {K : PySem.W.Frag} {H : Hp} : ∀ {ns : List Int} {vs : List V}, DqAll K H vs (ns.map PyData.int) → vs = ns.map V.int
  | [], _, h => by cases h; rfl
  | n :: ns, _, h => by
    cases h with
    | cons h1 h2 => cases h1; rw [dpA_ints h2]; rfl
theorem dpA_of_ints {K : PySem.W.Frag} {H : Hp} : ∀ (ns : List Int), DqAll K H (ns.map V.int) (ns.map PyData.int)
  | [] => .nil
  | n :: ns => .cons (.int n) (dpA_of_ints ns)
theorem dpA_bls {K : PySem.W.Frag} {H : Hp} : ∀ {bs : List Bool} {vs : List V}, DqAll K H vs (bs.map PyData.bool) → vs = bs.map V.bl
  | [], _, h => by cases h; rfl
  | n :: ns, _, h => by
    cases h with
    | cons h1 h2 => cases h1; rw [dpA_bls h2]; rfl

/-! ## the relation -/
structure Ctx where
  H0 : Hp
  Z0 : Hp
  B : Option Addr
abbrev Xo := Option (Addr × Value × Option Addr)
/-- what stays the same in a body: the written part, the classes of errors, the error in hand -/
structure Pa where
  K : PySem.W.Frag
  cA : Nat → Addr
  xo : Xo
def isO : Option Sl → Bool
  | some (.own _) => true
  | _ => false
def SlOk (P : Pa) (c : Ctx) (H Z : Hp) (o : Option (Option V)) : Sl → Prop
  | .un => True
  | .fro d => ∃ v, o = some (some v) ∧ Dq P.K Z v d
  | .own ds => ∃ a vs, o = some (some (.ref a)) ∧ H a = some (.lst vs) ∧ Z a = none ∧ c.H0 a = none ∧ DqAll P.K Z vs ds
  | .bor ds => ∃ a vs, o = some (some (.ref a)) ∧ H a = some (.lst vs) ∧ Z a = none ∧ c.B = some a ∧ DqAll P.K Z vs ds
  | .exc k f p => ∃ a dd v, P.xo = some (a, .ref (P.cA k), some dd) ∧ o = some (some (.ref a)) ∧ Z dd = some (.xd [(f, v)]) ∧ Dq P.K Z v p
  | .scr ns => ∃ a, o = some (some (.ref a)) ∧ SqL P.K Z a (ns.map V.int)
structure Rel (P : Pa) (c : Ctx) (g : List Sl) (σ : St) (H Z : Hp) : Prop where
  sub : Same Z H
  zf : ∀ b x, c.H0 b = some x → Z b = c.Z0 b
  fr : ∀ b x, c.H0 b = some x → c.B ≠ some b → H b = some x
  bo : ∀ a, c.B = some a → (∃ vs, H a = some (.lst vs)) ∧ (∃ x, c.H0 a = some x)
  len : g.length = σ.length
  sl : ∀ (i : Nat) (s : Sl), g[i]? = some s → SlOk P c H Z σ[i]? s
  ds : ∀ (i j : Nat) (a : Addr), i ≠ j → isO g[i]? = true → isO g[j]? = true → σ[i]? = some (some (.ref a)) → σ[j]? ≠ some (some (.ref a))
  b0 : ∀ (i : Nat) (ds : List D), g[i]? = some (.bor ds) → i = 0

section
variable {P : Pa} {c : Ctx} {g : List Sl} {σ : St} {H Z : Hp}
theorem Rel.dom (R : Rel P c g σ H Z) {p : Addr} (h : H p = none) : c.H0 p = none := by
  cases e : c.H0 p with
  | none => rfl
  | some x =>
    by_cases hb : c.B = some p
    · obtain ⟨⟨vs, e2⟩, _⟩ := R.bo p hb
      rw [h] at e2; cases e2
    · rw [R.fr p x e hb] at h; cases h
theorem Rel.zn (R : Rel P c g σ H Z) {p : Addr} (h : H p = none) : Z p = none := by
  cases e : Z p with
  | none => rfl
  | some x => rw [R.sub p x e] at h; cases h
theorem SlOk.mono {H' Z' : Hp} {o : Option (Option V)} {s : Sl} (h : SlOk P c H Z o s) (sz : Same Z Z')
    (k : ∀ a vs, o = some (some (.ref a)) → H a = some (.lst vs) → Z a = none → H' a = some (.lst vs) ∧ Z' a = none) : SlOk P c H' Z' o s := by
  cases s with
  | un => trivial
  | fro d => obtain ⟨v, e, r⟩ := h; exact ⟨v, e, dpM sz r⟩
  | own ds => obtain ⟨a, vs, e, h1, h2, h3, r⟩ := h; obtain ⟨k1, k2⟩ := k a vs e h1 h2; exact ⟨a, vs, e, k1, k2, h3, dpAM sz r⟩
  | bor ds => obtain ⟨a, vs, e, h1, h2, h3, r⟩ := h; obtain ⟨k1, k2⟩ := k a vs e h1 h2; exact ⟨a, vs, e, k1, k2, h3, dpAM sz r⟩
  | exc k f p => obtain ⟨a, dd, v, e1, e2, e3, r⟩ := h; exact ⟨a, dd, v, e1, e2, sz _ _ e3, dpM sz r⟩
  | scr ns => obtain ⟨a, e1, r⟩ := h; exact ⟨a, e1, sz.seq r⟩
/-- a new object, frozen at once -/
theorem Rel.newZ (R : Rel P c g σ H Z) {p : Addr} {o : HO} (h : H p = none) : Rel P c g σ (upd H p o) (upd Z p o) where
  sub := same_upd2 R.sub (R.zn h)
  zf := fun b x e => by
    rw [upd_ne (fun z => by subst z; rw [R.dom h] at e; cases e)]; exact R.zf b x e
  fr := fun b x e hb => by
    rw [upd_ne (fun z => by subst z; rw [R.dom h] at e; cases e)]; exact R.fr b x e hb
  bo := fun a e => by
    obtain ⟨⟨vs, e1⟩, x, e2⟩ := R.bo a e
    exact ⟨⟨vs, by rw [upd_ne (ne_of_none e1 h)]; exact e1⟩, x, e2⟩
  len := R.len
  sl := fun i s e => (R.sl i s e).mono (same_new (R.zn h)) fun a vs _ h1 h2 => by
    have ne := ne_of_none h1 h
    exact ⟨by rw [upd_ne ne]; exact h1, by rw [upd_ne ne]; exact h2⟩
  ds := R.ds
  b0 := R.b0
/-- a new object, not frozen -/
theorem Rel.newH (R : Rel P c g σ H Z) {p : Addr} {o : HO} (h : H p = none) : Rel P c g σ (upd H p o) Z where
  sub := same_out R.sub (R.zn h)
  zf := R.zf
  fr := fun b x e hb => by
    rw [upd_ne (fun z => by subst z; rw [R.dom h] at e; cases e)]; exact R.fr b x e hb
  bo := fun a e => by
    obtain ⟨⟨vs, e1⟩, x, e2⟩ := R.bo a e
    exact ⟨⟨vs, by rw [upd_ne (ne_of_none e1 h)]; exact e1⟩, x, e2⟩
  len := R.len
  sl := fun i s e => (R.sl i s e).mono (Same.refl _) fun a vs _ h1 h2 => by
    have ne := ne_of_none h1 h
    exact ⟨by rw [upd_ne ne]; exact h1, h2⟩
  ds := R.ds
  b0 := R.b0
/-- an object of our own that no slot owns is frozen -/
theorem Rel.frz (R : Rel P c g σ H Z) {p : Addr} {o : HO} (h : H p = some o) (h0 : c.H0 p = none) (hz : Z p = none)
    (hn : ∀ i : Nat, isO g[i]? = true → σ[i]? ≠ some (some (.ref p))) : Rel P c g σ H (upd Z p o) where
  sub := same_in R.sub h
  zf := fun b x e => by
    rw [upd_ne (fun z => by subst z; rw [h0] at e; cases e)]; exact R.zf b x e
  fr := R.fr
  bo := R.bo
  len := R.len
  sl := fun i s e => by
    have q := R.sl i s e
    cases s with
    | un => trivial
    | fro d => obtain ⟨v, e, r⟩ := q; exact ⟨v, e, dpM (same_new hz) r⟩
    | own ds =>
      obtain ⟨a, vs, e1, h1, h2, h3, r⟩ := q
      have ne : a ≠ p := fun z => hn i (by rw [e]; rfl) (z ▸ e1)
      exact ⟨a, vs, e1, h1, by rw [upd_ne ne]; exact h2, h3, dpAM (same_new hz) r⟩
    | bor ds =>
      obtain ⟨a, vs, e1, h1, h2, h3, r⟩ := q
      have ne : a ≠ p := fun z => by
        obtain ⟨_, x, e2⟩ := R.bo a h3
        rw [z, h0] at e2; cases e2
      exact ⟨a, vs, e1, h1, by rw [upd_ne ne]; exact h2, h3, dpAM (same_new hz) r⟩
    | exc k f p' => obtain ⟨a, dd, v, e1, e2, e3, r⟩ := q; exact ⟨a, dd, v, e1, e2, same_new hz _ _ e3, dpM (same_new hz) r⟩
    | scr ns => obtain ⟨a, e1, r⟩ := q; exact ⟨a, e1, (same_new hz).seq r⟩
  ds := R.ds
  b0 := R.b0
theorem getE_set {α : Type} {l : List α} {i j : Nat} {x y : α} (h : (l.set i x)[j]? = some y) : (j = i ∧ y = x) ∨ (j ≠ i ∧ l[j]? = some y) := by
  by_cases e : j = i
  · subst e
    left
    have hl : j < l.length := by
      obtain ⟨q, _⟩ := List.getElem?_eq_some_iff.mp h
      simpa using q
    rw [List.getElem?_set_self hl] at h
    exact ⟨rfl, (Option.some.inj h).symm⟩
  · right
    rw [List.getElem?_set_ne (Ne.symm e)] at h
    exact ⟨e, h⟩
theorem isO_set {l : List Sl} {i j : Nat} {x : Sl} (hx : isO (some x) = false) (h : isO (l.set i x)[j]? = true) : isO l[j]? = true := by
  cases e : (l.set i x)[j]? with
  | none => rw [e] at h; cases h
  | some y =>
    rw [e] at h
    rcases getE_set e with ⟨_, rfl⟩ | ⟨_, e2⟩
    · rw [hx] at h; cases h
    · rw [e2]; exact h
/-- an own slot's list is frozen -/
theorem Rel.frzS (R : Rel P c g σ H Z) {i : Nat} {ds : List D} (hi : g[i]? = some (.own ds)) :
    ∃ a Z', σ[i]? = some (some (.ref a)) ∧ Same Z Z' ∧ Rel P c (g.set i (.fro (.list ds))) σ H Z' ∧ Dq P.K Z' (.ref a) (.list ds) := by
  obtain ⟨a, vs, e1, h1, h2, h3, r⟩ := R.sl i _ hi
  have sz : Same Z (upd Z a (.lst vs)) := same_new h2
  have dd : Dq P.K (upd Z a (.lst vs)) (.ref a) (.list ds) := .lst upd_same (dpAM sz r)
  refine ⟨a, _, e1, sz, ⟨same_in R.sub h1, fun b x e => ?_, R.fr, R.bo, by simpa using R.len, fun j s e => ?_, fun j k b hjk hj hk e => ?_, fun j ds' e => ?_⟩, dd⟩
  · rw [upd_ne (fun z => by subst z; rw [h3] at e; cases e)]; exact R.zf b x e
  · rcases getE_set e with ⟨rfl, rfl⟩ | ⟨hne, e2⟩
    · exact ⟨_, e1, dd⟩
    · have q := R.sl j s e2
      cases s with
      | un => trivial
      | fro d => obtain ⟨v, e, r⟩ := q; exact ⟨v, e, dpM sz r⟩
      | own ds' =>
        obtain ⟨b, ws, e3, h4, h5, h6, r'⟩ := q
        have ne : b ≠ a := fun z => R.ds i j a (Ne.symm hne) (by rw [hi]; rfl) (by rw [e2]; rfl) e1 (z ▸ e3)
        exact ⟨b, ws, e3, h4, by rw [upd_ne ne]; exact h5, h6, dpAM sz r'⟩
      | bor ds' =>
        obtain ⟨b, ws, e3, h4, h5, h6, r'⟩ := q
        have ne : b ≠ a := fun z => by
          obtain ⟨_, x, e7⟩ := R.bo b h6
          rw [z, h3] at e7; cases e7
        exact ⟨b, ws, e3, h4, by rw [upd_ne ne]; exact h5, h6, dpAM sz r'⟩
      | exc k f p' => obtain ⟨b, dd, v, e4, e5, e6, r⟩ := q; exact ⟨b, dd, v, e4, e5, sz _ _ e6, dpM sz r⟩
      | scr ns => obtain ⟨b, e4, r⟩ := q; exact ⟨b, e4, sz.seq r⟩
  · exact R.ds j k b hjk (isO_set rfl hj) (isO_set rfl hk) e
  · rcases getE_set e with ⟨_, q⟩ | ⟨_, e2⟩
    · cases q
    · exact R.b0 j ds' e2
/-- an own slot's list is rewritten -/
theorem Rel.mutO (R : Rel P c g σ H Z) {i : Nat} {ds ds' : List D} {a : Addr} {vs' : List V} (hi : g[i]? = some (.own ds)) (ha : σ[i]? = some (some (.ref a)))
    (r' : DqAll P.K Z vs' ds') : Rel P c (g.set i (.own ds')) σ (upd H a (.lst vs')) Z := by
  obtain ⟨a', vs, e1, h1, h2, h3, r⟩ := R.sl i _ hi
  rw [ha] at e1; cases e1
  have hil : i < g.length := (List.getElem?_eq_some_iff.mp hi).1
  refine ⟨same_out R.sub h2, R.zf, fun b x e hb => ?_, fun b e => ?_, by simpa using R.len, fun j s e => ?_, fun j k b hjk hj hk e => ?_, fun j ds' e => ?_⟩
  · rw [upd_ne (fun z => by subst z; rw [h3] at e; cases e)]; exact R.fr b x e hb
  · obtain ⟨⟨ws, e1⟩, x, e2⟩ := R.bo b e
    have ne : b ≠ a := fun z => by subst z; rw [h3] at e2; cases e2
    exact ⟨⟨ws, by rw [upd_ne ne]; exact e1⟩, x, e2⟩
  · rcases getE_set e with ⟨rfl, rfl⟩ | ⟨hne, e2⟩
    · exact ⟨a, vs', ha, upd_same, h2, h3, r'⟩
    · have q := R.sl j s e2
      cases s with
      | un => trivial
      | fro d => exact q
      | own es =>
        obtain ⟨b, ws, e3, h4, h5, h6, r''⟩ := q
        have ne : b ≠ a := fun z => R.ds i j a (Ne.symm hne) (by rw [hi]; rfl) (by rw [e2]; rfl) ha (z ▸ e3)
        exact ⟨b, ws, e3, by rw [upd_ne ne]; exact h4, h5, h6, r''⟩
      | bor es =>
        obtain ⟨b, ws, e3, h4, h5, h6, r''⟩ := q
        have ne : b ≠ a := fun z => by
          obtain ⟨_, x, e7⟩ := R.bo b h6
          rw [z, h3] at e7; cases e7
        exact ⟨b, ws, e3, by rw [upd_ne ne]; exact h4, h5, h6, r''⟩
      | exc k f p' => exact q
      | scr ns => exact q
  · have f : ∀ m : Nat, isO (g.set i (Sl.own ds'))[m]? = true → isO g[m]? = true := fun m q => by
      cases e : (g.set i (Sl.own ds'))[m]? with
      | none => rw [e] at q; cases q
      | some y =>
        rw [e] at q
        rcases getE_set e with ⟨rfl, _⟩ | ⟨_, e2⟩
        · rw [hi]; rfl
        · rw [e2]; exact q
    exact R.ds j k b hjk (f j hj) (f k hk) e
  · rcases getE_set e with ⟨_, q⟩ | ⟨_, e2⟩
    · cases q
    · exact R.b0 j _ e2
/-- the borrowed list is rewritten -/
theorem Rel.mutB (R : Rel P c g σ H Z) {i : Nat} {ds ds' : List D} {a : Addr} {vs' : List V} (hi : g[i]? = some (.bor ds)) (ha : σ[i]? = some (some (.ref a)))
    (r' : DqAll P.K Z vs' ds') : Rel P c (g.set i (.bor ds')) σ (upd H a (.lst vs')) Z := by
  obtain ⟨a', vs, e1, h1, h2, h3, r⟩ := R.sl i _ hi
  rw [ha] at e1; cases e1
  obtain ⟨_, x0, ex0⟩ := R.bo a h3
  refine ⟨same_out R.sub h2, R.zf, fun b x e hb => ?_, fun b e => ?_, by simpa using R.len, fun j s e => ?_, fun j k b hjk hj hk e => ?_, fun j ds' e => ?_⟩
  · rw [upd_ne (fun z => by subst z; exact hb h3)]; exact R.fr b x e hb
  · have eb : b = a := by rw [h3] at e; exact (Option.some.inj e).symm
    subst eb
    exact ⟨⟨vs', upd_same⟩, x0, ex0⟩
  · rcases getE_set e with ⟨rfl, rfl⟩ | ⟨hne, e2⟩
    · exact ⟨a, vs', ha, upd_same, h2, h3, r'⟩
    · have q := R.sl j s e2
      cases s with
      | un => trivial
      | fro d => exact q
      | own es =>
        obtain ⟨b, ws, e3, h4, h5, h6, r''⟩ := q
        have ne : b ≠ a := fun z => by rw [z, ex0] at h6; cases h6
        exact ⟨b, ws, e3, by rw [upd_ne ne]; exact h4, h5, h6, r''⟩
      | bor es => exact absurd ((R.b0 j _ e2).trans (R.b0 i _ hi).symm) hne
      | exc k f p' => exact q
      | scr ns => exact q
  · exact R.ds j k b hjk (isO_set rfl hj) (isO_set rfl hk) e
  · rcases getE_set e with ⟨q, _⟩ | ⟨_, e2⟩
    · rw [q]; exact R.b0 i _ hi
    · exact R.b0 j _ e2
/-- a slot is stored -/
theorem Rel.put (R : Rel P c g σ H Z) {i : Nat} {v : Option V} {s : Sl} (hi : i < σ.length) (ok : SlOk P c H Z (some v) s)
    (hd : isO (some s) = true → ∀ a, v = some (.ref a) → ∀ j : Nat, j ≠ i → isO g[j]? = true → σ[j]? ≠ some (some (.ref a))) (hb : ∀ ds, s ≠ .bor ds) :
    Rel P c (g.set i s) (σ.set i v) H Z := by
  have gi : (σ.set i v)[i]? = some v := List.getElem?_set_self hi
  refine ⟨R.sub, R.zf, R.fr, R.bo, by simpa using R.len, fun j t e => ?_, fun j k b hjk hj hk e e' => ?_, fun j ds' e => ?_⟩
  · rcases getE_set e with ⟨rfl, rfl⟩ | ⟨hne, e2⟩
    · rw [gi]; exact ok
    · rw [List.getElem?_set_ne (Ne.symm hne)]; exact R.sl j t e2
  · have f : ∀ m : Nat, isO (g.set i s)[m]? = true → (m = i ∧ isO (some s) = true) ∨ (m ≠ i ∧ isO g[m]? = true) := fun m q => by
      cases e : (g.set i s)[m]? with
      | none => rw [e] at q; cases q
      | some y =>
        rw [e] at q
        rcases getE_set e with ⟨rfl, rfl⟩ | ⟨hne, e2⟩
        · exact .inl ⟨rfl, q⟩
        · exact .inr ⟨hne, by rw [e2]; exact q⟩
    rcases f j hj with ⟨rfl, hs⟩ | ⟨nj, hj'⟩
    · rcases f k hk with ⟨rfl, _⟩ | ⟨nk, hk'⟩
      · exact hjk rfl
      · rw [gi] at e
        rw [List.getElem?_set_ne (Ne.symm nk)] at e'
        exact hd hs b (Option.some.inj e) k nk hk' e'
    · rw [List.getElem?_set_ne (Ne.symm nj)] at e
      rcases f k hk with ⟨rfl, hs⟩ | ⟨nk, hk'⟩
      · rw [gi] at e'
        exact hd hs b (Option.some.inj e') j nj hj' e
      · rw [List.getElem?_set_ne (Ne.symm nk)] at e'
        exact R.ds j k b hjk hj' hk' e e'
  · rcases getE_set e with ⟨_, q⟩ | ⟨_, e2⟩
    · exact absurd q.symm (hb ds')
    · exact R.b0 j _ e2
end
end Mw
namespace Mw
open PySem L2

/-! ## values as they come, as they stay -/
def VR (P : Pa) (c : Ctx) (g : List Sl) (σ : St) (H Z : Hp) (v : V) : EV → Prop
  | .fro d => Dq P.K Z v d
  | .own ds => ∃ a vs, v = .ref a ∧ H a = some (.lst vs) ∧ Z a = none ∧ c.H0 a = none ∧ DqAll P.K Z vs ds ∧ ∀ i : Nat, isO g[i]? = true → σ[i]? ≠ some (some (.ref a))
  | .var i => σ[i]? = some (some v)
def VP (P : Pa) (σ : St) (Z : Hp) (v : V) : EV → Prop
  | .fro d => Dq P.K Z v d
  | .own _ => False
  | .var i => σ[i]? = some (some v)
def frz : EV → EV
  | .fro d => .fro d
  | .own ds => .fro (.list ds)
  | .var i => .var i
def slD : Sl → Option D
  | .fro d => some d
  | .own ds => some (.list ds)
  | .bor ds => some (.list ds)
  | _ => none
def look (g : List Sl) : EV → Option D
  | .fro d => some d
  | .own ds => some (.list ds)
  | .var i => (g[i]?).bind slD
inductive Rr (K : PySem.W.Frag) (H Z : Hp) : V → D → Prop
  | z {v : V} {d : D} (h : Dq K Z v d) : Rr K H Z v d
  | l {a : Addr} {vs : List V} {ds : List D} (h : H a = some (.lst vs)) (r : DqAll K Z vs ds) : Rr K H Z (.ref a) (.list ds)
section
variable {K : PySem.W.Frag} {H Z : Hp} {v : V}
theorem Rr.h {d : D} (h : Rr K H Z v d) (s : Same Z H) : Dq K H v d := by
  cases h with
  | z h => exact dpM s h
  | l h r => exact .lst h (dpAM s r)
theorem Rr.lst {ds : List D} (h : Rr K H Z v (.list ds)) (s : Same Z H) : ∃ a vs, v = .ref a ∧ H a = some (.lst vs) ∧ DqAll K Z vs ds := by
  cases h with
  | z h => cases h with | lst h1 h2 => exact ⟨_, _, rfl, s _ _ h1, h2⟩
  | l h r => exact ⟨_, _, rfl, h, r⟩
theorem Rr.tup {ds : List D} (h : Rr K H Z v (.tuple ds)) (s : Same Z H) : ∃ a vs, v = .ref a ∧ SqT K H a vs ∧ DqAll K Z vs ds := by
  cases h with
  | z h => cases h with | tup h1 h2 => exact ⟨_, _, rfl, seqT s h1, h2⟩
theorem Rr.tupz {ds : List D} (h : Rr K H Z v (.tuple ds)) : Dq K Z v (.tuple ds) := by cases h with | z h => exact h
theorem Rr.int {i : Int} (h : Rr K H Z v (.int i)) : v = .int i := by cases h with | z h => cases h; rfl
theorem Rr.bl {i : Bool} (h : Rr K H Z v (.bool i)) : v = .bl i := by cases h with | z h => cases h; rfl
theorem Rr.str {i : Str} (h : Rr K H Z v (.str i)) : v = .str i := by cases h with | z h => cases h; rfl
theorem Rr.non (h : Rr K H Z v .none) : v = .non := by cases h with | z h => cases h; rfl
end
section
variable {P : Pa} {c : Ctx} {g : List Sl} {σ : St} {H Z Z' : Hp} {v : V} {ev : EV}
theorem VR.frz (R : Rel P c g σ H Z) (h : VR P c g σ H Z v ev) : ∃ Z', Same Z Z' ∧ Rel P c g σ H Z' ∧ VP P σ Z' v (frz ev) := by
  cases ev with
  | fro d => exact ⟨Z, Same.refl _, R, h⟩
  | var i => exact ⟨Z, Same.refl _, R, h⟩
  | own ds =>
    obtain ⟨a, vs, rfl, h1, h2, h3, r, hn⟩ := h
    exact ⟨_, same_new h2, R.frz h1 h3 h2 hn, .lst upd_same (dpAM (same_new h2) r)⟩
theorem VP.mono (h : VP P σ Z v ev) (s : Same Z Z') : VP P σ Z' v ev := by
  cases ev with
  | fro d => exact dpM s h
  | own ds => exact h
  | var i => exact h
theorem VP.vr (h : VP P σ Z v ev) : VR P c g σ H Z v ev := by
  cases ev with
  | fro d => exact h
  | own ds => exact h.elim
  | var i => exact h
theorem VP.rr (h : VP P σ Z v ev) (R : Rel P c g σ H Z) {d : D} (e : look g ev = some d) : Rr P.K H Z v d := by
  cases ev with
  | fro d' => cases e; exact .z h
  | own ds => exact h.elim
  | var i =>
    have h : σ[i]? = some (some v) := h
    have e : (g[i]?).bind slD = some d := e
    cases es : g[i]? with
    | none => rw [es] at e; cases e
    | some s =>
      rw [es] at e
      have ok := R.sl i s es
      cases s with
      | un => cases e
      | exc k f p => cases e
      | scr ns => cases e
      | fro d' =>
        cases e
        obtain ⟨w, e1, r⟩ := ok
        rw [h] at e1; cases e1
        exact .z r
      | own ds =>
        cases e
        obtain ⟨a, vs, e1, h1, _, _, r⟩ := ok
        rw [h] at e1; cases e1
        exact .l h1 r
      | bor ds =>
        cases e
        obtain ⟨a, vs, e1, h1, _, _, r⟩ := ok
        rw [h] at e1; cases e1
        exact .l h1 r
end
/-- a value that leaves: the list of a slot is frozen -/
def esc : EV → SM D
  | .fro d => ret d
  | .own ds => ret (.list ds)
  | .var i => fun g => match g[i]? with
    | some (.fro d) => .ok (d, g)
    | some (.own ds) => .ok (.list ds, g.set i (.fro (.list ds)))
    | _ => .stuck
section
variable {P : Pa} {c : Ctx} {g : List Sl} {σ : St} {H Z : Hp} {v : V} {ev : EV} {ok : D → List Sl → Prop} {ex : Nat → Str → D → List Sl → Prop}
theorem esc_ok (R : Rel P c g σ H Z) (h : VP P σ Z v ev) (p : Post ok ex (esc ev g)) : ∃ d g' Z', Same Z Z' ∧ Rel P c g' σ H Z' ∧ Dq P.K Z' v d ∧ ok d g' := by
  cases ev with
  | fro d => exact ⟨d, g, Z, Same.refl _, R, h, p⟩
  | own ds => exact h.elim
  | var i =>
    have h : σ[i]? = some (some v) := h
    have p : Post ok ex (match g[i]? with
      | some (.fro d) => Res.ok (d, g)
      | some (.own ds) => .ok (.list ds, g.set i (.fro (.list ds)))
      | _ => .stuck) := p
    cases es : g[i]? with
    | none => rw [es] at p; exact p.elim
    | some s =>
      rw [es] at p
      cases s with
      | un => exact p.elim
      | exc k f p' => exact p.elim
      | scr ns => exact p.elim
      | bor ds => exact p.elim
      | fro d =>
        obtain ⟨w, e1, r⟩ := R.sl i _ es
        rw [h] at e1; cases e1
        exact ⟨d, g, Z, Same.refl _, R, r, p⟩
      | own ds =>
        obtain ⟨a, Z', e1, sz, R', r⟩ := R.frzS es
        rw [h] at e1; cases e1
        exact ⟨_, _, Z', sz, R', r, p⟩
end

/-! ## the readings -/
def exK (P : Pa) (c : Ctx) (σ : St) (W : WX) : Nat → Str → D → List Sl → Prop := fun k f p g => ∀ dd v H' Z', Z' dd = some (.xd [(f, v)]) → Dq P.K Z' v p → Rel P c g σ H' Z' → W (.ref (P.cA k)) (some dd) σ H'
def TEo (P : Pa) (W : WX) (de : SM EV) : TE := fun σ H Q => ∃ c g Z, Rel P c g σ H Z ∧
  Post (fun ev g' => ∀ v H' Z', Same Z Z' → Rel P c g' σ H' Z' → VR P c g' σ H' Z' v ev → Q v H') (exK P c σ W) (de g)
def TTo (P : Pa) (W : WX) (de : SM Bool) : TT := fun σ H Q => ∃ c g Z, Rel P c g σ H Z ∧
  Post (fun b g' => ∀ H' Z', Same Z Z' → Rel P c g' σ H' Z' → Q b H') (exK P c σ W) (de g)
inductive VPL (P : Pa) (σ : St) (Z : Hp) : List V → List EV → Prop
  | nil : VPL P σ Z [] []
  | cons {v : V} {vs : List V} {e : EV} {es : List EV} (h : VP P σ Z v e) (r : VPL P σ Z vs es) : VPL P σ Z (v :: vs) (e :: es)
theorem VPL.mono {P : Pa} {σ : St} {Z Z' : Hp} (s : Same Z Z') : ∀ {vs : List V} {es : List EV}, VPL P σ Z vs es → VPL P σ Z' vs es
  | _, _, .nil => .nil
  | _, _, .cons h r => .cons (h.mono s) (r.mono s)
def TAo (P : Pa) (W : WX) (de : SM (List EV)) : TA := fun σ H Q => ∃ c g Z, Rel P c g σ H Z ∧
  Post (fun evs g' => ∀ vs H' Z', Same Z Z' → Rel P c g' σ H' Z' → VPL P σ Z' vs evs → Q vs H') (exK P c σ W) (de g)
section
variable {X : Cx} {e : Expr} {es : List Expr}
theorem peW {t t' : TE} (h : PE X e t) (w : ∀ σ H Q, t' σ H Q → t σ H Q) : PE X e t' := ⟨fun pins s σ H Q I q => h.run pins s σ H Q I (w σ H Q q)⟩
theorem ptW {t t' : TT} (h : PT X e t) (w : ∀ σ H Q, t' σ H Q → t σ H Q) : PT X e t' := ⟨fun pins s σ H Q I q => h.run pins s σ H Q I (w σ H Q q)⟩
theorem pwW {t t' : TT} (h : PW X e t) (w : ∀ σ H Q, t' σ H Q → t σ H Q) : PW X e t' := ⟨fun wh pins s σ H Q I q => h.run wh pins s σ H Q I (w σ H Q q)⟩
theorem paW {t t' : TA} (h : PA X es t) (w : ∀ σ H Q, t' σ H Q → t σ H Q) : PA X es t' := ⟨fun pos pins s σ H Q I q => h.run pos pins s σ H Q I (w σ H Q q)⟩
theorem psW {st : Stmt} {t t' : TS} (h : PS X st t) (w : ∀ Dd σ H, t' Dd σ H → t Dd σ H) : PS X st t' := ⟨fun pins s σ H Q I q => h.run pins s σ H Q I (w Q σ H q)⟩
theorem pssW {st : List Stmt} {t t' : TS} (h : PSs X st t) (w : ∀ Dd σ H, t' Dd σ H → t Dd σ H) : PSs X st t' := ⟨fun pins s σ H Q I q => h.run pins s σ H Q I (w Q σ H q)⟩
end
def onE {β : Type} (da : SM EV) (k : EV → SM β) : SM β := bnd da fun ev => k (frz ev)
section
variable {P : Pa} {c : Ctx} {g : List Sl} {σ : St} {H Z : Hp} {W : WX} {β : Type} {ok : β → List Sl → Prop}
theorem TEo.on {da : SM EV} {k : EV → SM β} {R' : VK} (R : Rel P c g σ H Z) (p : Post ok (exK P c σ W) (onE da k g))
    (h : ∀ ev g1 v H1 Z1, Same Z Z1 → Rel P c g1 σ H1 Z1 → VP P σ Z1 v ev → Post ok (exK P c σ W) (k ev g1) → R' v H1) : TEo P W da σ H R' := by
  refine ⟨c, g, Z, R, post_mono (post_bnd.mp p) (fun ev g1 q v H1 Z1 sz R1 vr => ?_) fun _ _ _ _ q => q⟩
  obtain ⟨Z2, sz2, R2, vp⟩ := vr.frz R1
  exact h _ g1 v H1 Z2 (sz.trans sz2) R2 vp q
theorem TTo.on {da : SM Bool} {k : Bool → SM β} {R' : Bool → Hp → Prop} (R : Rel P c g σ H Z) (p : Post ok (exK P c σ W) (bnd da k g))
    (h : ∀ b g1 H1 Z1, Same Z Z1 → Rel P c g1 σ H1 Z1 → Post ok (exK P c σ W) (k b g1) → R' b H1) : TTo P W da σ H R' :=
  ⟨c, g, Z, R, post_mono (post_bnd.mp p) (fun b g1 q H1 Z1 sz R1 => h b g1 H1 Z1 sz R1 q) fun _ _ _ _ q => q⟩
theorem TAo.on {da : SM (List EV)} {k : List EV → SM β} {R' : List V → Hp → Prop} (R : Rel P c g σ H Z) (p : Post ok (exK P c σ W) (bnd da k g))
    (h : ∀ evs g1 vs H1 Z1, Same Z Z1 → Rel P c g1 σ H1 Z1 → VPL P σ Z1 vs evs → Post ok (exK P c σ W) (k evs g1) → R' vs H1) : TAo P W da σ H R' :=
  ⟨c, g, Z, R, post_mono (post_bnd.mp p) (fun b g1 q vs H1 Z1 sz R1 vp => h b g1 vs H1 Z1 sz R1 vp q) fun _ _ _ _ q => q⟩
end

/-! ## what an operation gives -/
inductive Out where
  | val (d : D)
  | tupN (ds : List D)
  | lstN (ds : List D)
def Out.ev : Out → EV
  | .val d => .fro d
  | .tupN ds => .fro (.tuple ds)
  | .lstN ds => .own ds
def OutP (K : PySem.W.Frag) (H Z : Hp) (Q : VK) : Out → Prop
  | .val d => ∀ v, Dq K Z v d → Q v H
  | .tupN ds => (∀ v, Dq K Z v (.tuple ds) → Q v H) ∧ ∀ p vs, H p = none → DqAll K Z vs ds → Q (.ref p) (upd H p (.tup vs))
  | .lstN ds => ∀ p vs, H p = none → DqAll K Z vs ds → Q (.ref p) (upd H p (.lst vs))
section
variable {P : Pa} {c : Ctx} {g : List Sl} {σ : St} {H Z Z0 : Hp} {Q : VK}
theorem VR.newL (R : Rel P c g σ H Z) {p : Addr} {vs : List V} {ds : List D} (hp : H p = none) (r : DqAll P.K Z vs ds) : VR P c g σ (upd H p (.lst vs)) Z (.ref p) (.own ds) := by
  refine ⟨p, vs, rfl, upd_same, R.zn hp, R.dom hp, r, fun i hi e => ?_⟩
  cases es : g[i]? with
  | none => rw [es] at hi; cases hi
  | some s =>
    rw [es] at hi
    cases s with
    | own ds' =>
      obtain ⟨a, ws, e1, h1, _⟩ := R.sl i _ es
      rw [e] at e1; cases e1
      rw [hp] at h1; cases h1
    | un => cases hi
    | fro _ => cases hi
    | bor _ => cases hi
    | exc _ _ _ => cases hi
    | scr _ => cases hi
theorem out_fin {o : Out} (R : Rel P c g σ H Z) (sz : Same Z0 Z) (h : ∀ v H' Z', Same Z0 Z' → Rel P c g σ H' Z' → VR P c g σ H' Z' v o.ev → Q v H') : OutP P.K H Z Q o := by
  cases o with
  | val d => exact fun v r => h v H Z sz R r
  | tupN ds => exact ⟨fun v r => h v H Z sz R r, fun p vs hp r => h _ _ _ (sz.trans (same_new (R.zn hp))) (R.newZ hp) (.tup (SqT.of upd_same) (dpAM (same_new (R.zn hp)) r))⟩
  | lstN ds => exact fun p vs hp r => h _ _ Z sz (R.newH hp) (VR.newL R hp r)
end
def app2 (f : D → D → Option Out) (x y : EV) : SM EV := fun g => match (look g x).bind fun d => (look g y).bind fun e => f d e with
  | some o => .ok (o.ev, g)
  | none => .stuck
def app1 (f : D → Option Out) (x : EV) : SM EV := fun g => match (look g x).bind f with
  | some o => .ok (o.ev, g)
  | none => .stuck
def lookL (g : List Sl) : List EV → Option (List D)
  | [] => some []
  | e :: es => (look g e).bind fun d => (lookL g es).bind fun ds => some (d :: ds)
def appN (f : List D → Option Out) (xs : List EV) : SM EV := fun g => match (lookL g xs).bind f with
  | some o => .ok (o.ev, g)
  | none => .stuck
inductive RrL (K : PySem.W.Frag) (H Z : Hp) : List V → List D → Prop
  | nil : RrL K H Z [] []
  | cons {v : V} {vs : List V} {d : D} {ds : List D} (h : Rr K H Z v d) (r : RrL K H Z vs ds) : RrL K H Z (v :: vs) (d :: ds)
def Sound2 (K : PySem.W.Frag) (r : R2) (f : D → D → Option Out) : Prop := ∀ (H Z : Hp) (x y : V) (d e : D) (o : Out) (Q : VK), Same Z H → Rr K H Z x d → Rr K H Z y e → f d e = some o → OutP K H Z Q o → r x y H Q
def Sound1 (K : PySem.W.Frag) (r : V → Hp → VK → Prop) (f : D → Option Out) : Prop := ∀ (H Z : Hp) (x : V) (d : D) (o : Out) (Q : VK), Same Z H → Rr K H Z x d → f d = some o → OutP K H Z Q o → r x H Q
def SoundN (K : PySem.W.Frag) (r : List V → Hp → VK → Prop) (f : List D → Option Out) : Prop := ∀ (H Z : Hp) (xs : List V) (ds : List D) (o : Out) (Q : VK), Same Z H → RrL K H Z xs ds → f ds = some o → OutP K H Z Q o → r xs H Q
section
variable {P : Pa} {c : Ctx} {g : List Sl} {σ : St} {H Z : Hp} {W : WX} {ok : EV → List Sl → Prop} {ex : Nat → Str → D → List Sl → Prop} {Q : VK}
theorem app2_ok {f : D → D → Option Out} {r : R2} {x y : EV} {v w : V} (so : Sound2 P.K r f) (R : Rel P c g σ H Z) (hx : VP P σ Z v x) (hy : VP P σ Z w y)
    (p : Post ok ex (app2 f x y g)) (h : ∀ o : Out, ok o.ev g → OutP P.K H Z Q o) : r v w H Q := by
  unfold app2 at p
  cases e1 : look g x with
  | none => rw [e1] at p; exact p.elim
  | some d =>
    cases e2 : look g y with
    | none => rw [e1, e2] at p; exact p.elim
    | some e =>
      rw [e1, e2] at p
      simp only [Option.bind_some] at p
      cases e3 : f d e with
      | none => rw [e3] at p; exact p.elim
      | some o => rw [e3] at p; exact so H Z v w d e o Q R.sub (hx.rr R e1) (hy.rr R e2) e3 (h o p)
theorem app1_ok {f : D → Option Out} {r : V → Hp → VK → Prop} {x : EV} {v : V} (so : Sound1 P.K r f) (R : Rel P c g σ H Z) (hx : VP P σ Z v x)
    (p : Post ok ex (app1 f x g)) (h : ∀ o : Out, ok o.ev g → OutP P.K H Z Q o) : r v H Q := by
  unfold app1 at p
  cases e1 : look g x with
  | none => rw [e1] at p; exact p.elim
  | some d =>
    rw [e1] at p
    simp only [Option.bind_some] at p
    cases e3 : f d with
    | none => rw [e3] at p; exact p.elim
    | some o => rw [e3] at p; exact so H Z v d o Q R.sub (hx.rr R e1) e3 (h o p)
theorem lookL_rr (R : Rel P c g σ H Z) : ∀ {xs : List EV} {vs : List V} {ds : List D}, VPL P σ Z vs xs → lookL g xs = some ds → RrL P.K H Z vs ds
  | [], _, _, h, e => by cases h; cases e; exact .nil
  | x :: xs, _, _, h, e => by
    cases h with
    | cons h1 h2 =>
      unfold lookL at e
      cases e1 : look g x with
      | none => rw [e1] at e; cases e
      | some d =>
        cases e2 : lookL g xs with
        | none => rw [e1, e2] at e; cases e
        | some ds =>
          rw [e1, e2] at e
          cases e
          exact .cons (h1.rr R e1) (lookL_rr R h2 e2)
theorem appN_ok {f : List D → Option Out} {r : List V → Hp → VK → Prop} {xs : List EV} {vs : List V} (so : SoundN P.K r f) (R : Rel P c g σ H Z) (hx : VPL P σ Z vs xs)
    (p : Post ok ex (appN f xs g)) (h : ∀ o : Out, ok o.ev g → OutP P.K H Z Q o) : r vs H Q := by
  unfold appN at p
  cases e1 : lookL g xs with
  | none => rw [e1] at p; exact p.elim
  | some d =>
    rw [e1] at p
    simp only [Option.bind_some] at p
    cases e3 : f d with
    | none => rw [e3] at p; exact p.elim
    | some o => rw [e3] at p; exact so H Z vs d o Q R.sub (lookL_rr R hx e1) e3 (h o p)
end

/-! ## expressions -/
def cst (d : D) : SM EV := ret (.fro d)
/-- a name -/
def vr (i : Nat) : SM EV := fun g => match g[i]? with
  | some (.fro d) => .ok (.fro d, g)
  | some (.own _) => .ok (.var i, g)
  | some (.bor _) => .ok (.var i, g)
  | _ => .stuck
def op2 (f : D → D → Option Out) (da db : SM EV) : SM EV := onE da fun x => onE db fun y => app2 f x y
def op1 (f : D → Option Out) (da : SM EV) : SM EV := onE da (app1 f)
def opN (f : List D → Option Out) (da : SM (List EV)) : SM EV := bnd da (appN f)
def argsNil : SM (List EV) := ret []
def argsCons (da : SM EV) (dr : SM (List EV)) : SM (List EV) := onE da fun x => bnd dr fun xs => ret (x :: xs)
def escL : List EV → SM (List D)
  | [] => ret []
  | e :: es => bnd (esc e) fun d => bnd (escL es) fun ds => ret (d :: ds)
def SZ : Nat := 16777216
def tupE (da : SM (List EV)) : SM EV := bnd da fun xs => bnd (escL xs) fun ds => if ds.length ≤ SZ then ret (.fro (.tuple ds)) else fun _ => .stuck
def lstE (da : SM (List EV)) : SM EV := bnd da fun xs => bnd (escL xs) fun ds => if ds.length ≤ SZ then ret (.own ds) else fun _ => .stuck
theorem SZ_eq : SZ = sizeLine := by rw [sizeLine_eq]; rfl
section
variable {X : Cx} {P : Pa} {W : WX} {e a b : Expr} {es : List Expr} {pos : Pos}
theorem me_int {i j} : PE X (.Constant (.int i) j pos) (TEo P W (cst (.int i))) := peW pe_int fun σ H Q ⟨c, g, Z, R, p⟩ => p _ H Z (Same.refl _) R (.int i)
theorem me_str {x j} : PE X (.Constant (.str x) j pos) (TEo P W (cst (.str x))) := peW pe_str fun σ H Q ⟨c, g, Z, R, p⟩ => p _ H Z (Same.refl _) R (.str x)
theorem me_bl {x j} : PE X (.Constant (.bool x) j pos) (TEo P W (cst (.bool x))) := peW pe_bl fun σ H Q ⟨c, g, Z, R, p⟩ => p _ H Z (Same.refl _) R (.bl x)
theorem me_non {j} : PE X (.Constant .none j pos) (TEo P W (cst .none)) := peW pe_non fun σ H Q ⟨c, g, Z, R, p⟩ => p _ H Z (Same.refl _) R .non
theorem me_var {i : Nat} {x : Str} (h : PE X (.Name x pos) (tVar i)) : PE X (.Name x pos) (TEo P W (vr i)) := peW h fun σ H Q ⟨c, g, Z, R, p⟩ => by
  unfold vr at p
  cases es : g[i]? with
  | none => rw [es] at p; exact p.elim
  | some s =>
    rw [es] at p
    cases s with
    | un => exact p.elim
    | exc k f p' => exact p.elim
    | scr ns => exact p.elim
    | fro d => obtain ⟨v, e1, r⟩ := R.sl i _ es; exact ⟨v, e1, p v H Z (Same.refl _) R r⟩
    | own ds => obtain ⟨a, vs, e1, _⟩ := R.sl i _ es; exact ⟨_, e1, p _ H Z (Same.refl _) R e1⟩
    | bor ds => obtain ⟨a, vs, e1, _⟩ := R.sl i _ es; exact ⟨_, e1, p _ H Z (Same.refl _) R e1⟩
/-- a constant of the module -/
theorem me_glob {x : Str} {d : D} {t : TE} (h : PE X (.Name x pos) t) (hk : ∀ σ H Q, (∀ v, (∀ Z, Dq P.K Z v d) → Q v H) → t σ H Q) : PE X (.Name x pos) (TEo P W (cst d)) :=
  peW h fun σ H Q ⟨c, g, Z, R, p⟩ => hk σ H Q fun v r => p v H Z (Same.refl _) R (r Z)
theorem me_op2 {op : Operator} {r : R2} {f : D → D → Option Out} {da db : SM EV} (ho : OpR X (binaryOp op) r) (so : Sound2 P.K r f) (ha : PE X a (TEo P W da)) (hb : PE X b (TEo P W db)) :
    PE X (.BinOp a op b pos) (TEo P W (op2 f da db)) := peW (pe_op ho ha hb) fun σ H Q ⟨c, g, Z, R, p⟩ =>
  TEo.on R p fun x g1 v H1 Z1 s1 R1 vx p1 => TEo.on R1 p1 fun y g2 w H2 Z2 s2 R2 vy p2 =>
    app2_ok so R2 (vx.mono s2) vy p2 fun o q => out_fin R2 (s1.trans s2) q
theorem me_cmp {op : CmpOp} {r : R2} {f : D → D → Option Out} {da db : SM EV} (ho : OpR X (compareOp op) r) (so : Sound2 P.K r f) (ha : PE X a (TEo P W da)) (hb : PE X b (TEo P W db)) (hm : behindInMarks op b = false) :
    PE X (.Compare a [op] [b] pos) (TEo P W (op2 f da db)) := peW (pe_cmpR ho ha hb hm) fun σ H Q ⟨c, g, Z, R, p⟩ =>
  TEo.on R p fun x g1 v H1 Z1 s1 R1 vx p1 => TEo.on R1 p1 fun y g2 w H2 Z2 s2 R2 vy p2 =>
    app2_ok so R2 (vx.mono s2) vy p2 fun o q => out_fin R2 (s1.trans s2) q
theorem me_un {op : UnaryOp} {r : V → Hp → VK → Prop} {f : D → Option Out} {da : SM EV} (ho : UnR X (unaryOp op) r) (so : Sound1 P.K r f) (ha : PE X a (TEo P W da)) :
    PE X (.UnaryOp op a pos) (TEo P W (op1 f da)) := peW (pe_un ho ha) fun σ H Q ⟨c, g, Z, R, p⟩ =>
  TEo.on R p fun x g1 v H1 Z1 s1 R1 vx p1 => app1_ok so R1 vx p1 fun o q => out_fin R1 s1 q
theorem me_ix {r : R2} {f : D → D → Option Out} {da db : SM EV} (ho : IxR X r) (so : Sound2 P.K r f) (ha : PE X a (TEo P W da)) (hb : PE X b (TEo P W db)) (hs : PlainIx b := by exact fun _ _ => rfl) :
    PE X (.Subscript a b pos) (TEo P W (op2 f da db)) := peW (pe_ix ho ha hb hs) fun σ H Q ⟨c, g, Z, R, p⟩ =>
  TEo.on R p fun x g1 v H1 Z1 s1 R1 vx p1 => TEo.on R1 p1 fun y g2 w H2 Z2 s2 R2 vy p2 =>
    app2_ok so R2 (vx.mono s2) vy p2 fun o q => out_fin R2 (s1.trans s2) q
theorem ma_nil : PA X [] (TAo P W argsNil) := paW pa_nil fun σ H Q ⟨c, g, Z, R, p⟩ => p [] H Z (Same.refl _) R .nil
theorem ma_cons {da : SM EV} {dr : SM (List EV)} (ha : PE X e (TEo P W da)) (hr : PA X es (TAo P W dr)) (hs : starEach (e :: es) X.env = (false, eval e X.env) :: starEach es X.env := by rfl) : PA X (e :: es) (TAo P W (argsCons da dr)) :=
  paW (pa_cons ha hr hs) fun σ H Q ⟨c, g, Z, R, p⟩ =>
    TEo.on R p fun x g1 v H1 Z1 s1 R1 vx p1 => TAo.on R1 p1 fun ys g2 ws H2 Z2 s2 R2 vy p2 => p2 _ H2 Z2 (s1.trans s2) R2 (.cons (vx.mono s2) vy)
theorem me_callB {x : Str} {id : String} {r : List V → Hp → VK → Prop} {f : List D → Option Out} {da : SM (List EV)} {p0 : Pos} (hc : CallR X (.builtin id) r) (so : SoundN P.K r f) (hg : Gl X x) (hm : X.mg x = none) (hv : bootBuiltins x = some (.builtin id)) (ha : PA X (e :: es) (TAo P W da)) (hn : x ≠ "__name__" := by decide) (hdb : (x == ("__debug__" : Str)) = false := by decide)
    (he : starEach (e :: es) X.env = (false, eval e X.env) :: starEach es X.env := by rfl) (hpl : (backTo pos (starEach es X.env)).any (·.1) = false := by rfl) : PE X (.Call (.Name x p0) (e :: es) [] pos) (TEo P W (opN f da)) :=
  peW (pe_callB hc hg hm hv ha hn hdb he hpl) fun σ H Q ⟨c, g, Z, R, p⟩ =>
    TAo.on R p fun ys g2 ws H2 Z2 s2 R2 vy p2 => appN_ok so R2 vy p2 fun o q => out_fin R2 s2 q
theorem me_callTy {x : Str} {T : String} {r : List V → Hp → VK → Prop} {f : List D → Option Out} {da : SM (List EV)} {p0 : Pos} (hc : CallR X (.type T) r) (so : SoundN P.K r f) (hg : Gl X x) (hm : X.mg x = none) (hv : bootBuiltins x = some (.type T)) (ha : PA X (e :: es) (TAo P W da)) (hn : x ≠ "__name__" := by decide) (hdb : (x == ("__debug__" : Str)) = false := by decide)
    (he : starEach (e :: es) X.env = (false, eval e X.env) :: starEach es X.env := by rfl) (hpl : (backTo pos (starEach es X.env)).any (·.1) = false := by rfl) : PE X (.Call (.Name x p0) (e :: es) [] pos) (TEo P W (opN f da)) :=
  peW (pe_callTy hc hg hm hv ha hn hdb he hpl) fun σ H Q ⟨c, g, Z, R, p⟩ =>
    TAo.on R p fun ys g2 ws H2 Z2 s2 R2 vy p2 => appN_ok so R2 vy p2 fun o q => out_fin R2 s2 q
end
section
variable {P : Pa} {c : Ctx} {σ : St} {H : Hp} {ex : Nat → Str → D → List Sl → Prop}
theorem escL_ok : ∀ {xs : List EV} {vs : List V} {g : List Sl} {Z : Hp} {ok : List D → List Sl → Prop}, Rel P c g σ H Z → VPL P σ Z vs xs → Post ok ex (escL xs g) → ∃ ds g' Z', Same Z Z' ∧ Rel P c g' σ H Z' ∧ DqAll P.K Z' vs ds ∧ ok ds g'
  | [], _, g, Z, ok, R, h, p => by cases h; exact ⟨[], g, Z, Same.refl _, R, .nil, p⟩
  | x :: xs, _, g, Z, ok, R, h, p => by
    cases h with
    | cons h1 h2 =>
      obtain ⟨d, g1, Z1, s1, R1, r1, p1⟩ := esc_ok R h1 (post_bnd.mp p)
      obtain ⟨ds, g2, Z2, s2, R2, r2, p2⟩ := escL_ok R1 (h2.mono s1) (post_bnd.mp p1)
      exact ⟨d :: ds, g2, Z2, s1.trans s2, R2, .cons (dpM s2 r1) r2, p2⟩
end
section
variable {X : Cx} {P : Pa} {W : WX} {e a b : Expr} {es : List Expr} {pos : Pos}
theorem me_tup {x1} {da : SM (List EV)} (ha : PA X es (TAo P W da)) : PE X (.Tuple es x1 pos) (TEo P W (tupE da)) := peW (pe_tup ha) fun σ H Q ⟨c, g, Z, R, p⟩ =>
  TAo.on R p fun ys g2 ws H2 Z2 s2 R2 vy p2 => by
    obtain ⟨ds, g3, Z3, s3, R3, r3, p3⟩ := escL_ok R2 vy (post_bnd.mp p2)
    by_cases hl : ds.length ≤ SZ
    · rw [if_pos hl] at p3
      refine ⟨by rw [dpA_len r3, ← SZ_eq]; exact hl, fun q hq => p3 _ _ _ ((s2.trans s3).trans (same_new (R3.zn hq))) (R3.newZ hq) (.tup (SqT.of upd_same) (dpAM (same_new (R3.zn hq)) r3))⟩
    · rw [if_neg hl] at p3; exact p3.elim
theorem me_lst {da : SM (List EV)} (ha : PA X es (TAo P W da)) : PE X (.List es pos) (TEo P W (lstE da)) := peW (pe_lst ha) fun σ H Q ⟨c, g, Z, R, p⟩ =>
  TAo.on R p fun ys g2 ws H2 Z2 s2 R2 vy p2 => by
    obtain ⟨ds, g3, Z3, s3, R3, r3, p3⟩ := escL_ok R2 vy (post_bnd.mp p2)
    by_cases hl : ds.length ≤ SZ
    · rw [if_pos hl] at p3
      refine ⟨by rw [dpA_len r3, ← SZ_eq]; exact hl, fun q hq => p3 _ _ _ (s2.trans s3) (R3.newH hq) (VR.newL R3 hq r3)⟩
    · rw [if_neg hl] at p3; exact p3.elim

/-! ## tests -/
def tstE (da : SM EV) : SM Bool := onE da fun x => fun g => match look g x with
  | some (.bool b) => .ok (b, g)
  | _ => .stuck
def truD : D → Option Bool
  | .none => some false
  | .bool b => some b
  | .int i => some (i != 0)
  | .str x => if x.length ≤ SZ then some ((x.length : Int) != 0) else none
  | .list ds => some (!ds.isEmpty)
  | .tuple ds => some (!ds.isEmpty)
  | .dict _ => none
def truE (da : SM EV) : SM Bool := onE da fun x => fun g => match (look g x).bind truD with
  | some b => .ok (b, g)
  | none => .stuck
def andT (a b : SM Bool) : SM Bool := bnd a fun c => if c then b else ret false
def orT (a b : SM Bool) : SM Bool := bnd a fun c => if c then ret true else b
def notT (a : SM Bool) : SM Bool := bnd a fun c => ret (!c)
def ifE (t : SM Bool) (a b : SM EV) : SM EV := bnd t fun c => if c then a else b
/-- a test as a value -/
def valT (t : SM Bool) : SM EV := bnd t fun c => ret (.fro (.bool c))
theorem mt_op {op : CmpOp} {r : R2} {f : D → D → Option Out} {da db : SM EV} (ho : OpR X (compareOp op) r) (so : Sound2 P.K r f) (ha : PE X a (TEo P W da)) (hb : PE X b (TEo P W db)) (hm : behindInMarks op b = false) :
    PT X (.Compare a [op] [b] pos) (TTo P W (tstE (op2 f da db))) := by
  have h := pt_cmpR (pos := pos) ho ha hb hm
  refine ptW h fun σ H Q ⟨c, g, Z, R, p⟩ => ?_
  have p' := post_bnd.mp p
  refine TEo.on R p' fun x g1 v H1 Z1 s1 R1 vx p1 => TEo.on R1 p1 fun y g2 w H2 Z2 s2 R2 vy p2 => app2_ok so R2 (vx.mono s2) vy p2 fun o q => out_fin R2 (s1.trans s2) fun v3 H3 Z3 s3 R3 r3 => ?_
  cases o with
  | val d =>
    cases d with
    | bool k =>
      have r3 : Dq P.K Z3 v3 (.bool k) := r3
      cases r3
      exact ⟨k, rfl, q H3 Z3 s3 R3⟩
    | none => exact q.elim
    | int _ => exact q.elim
    | str _ => exact q.elim
    | list _ => exact q.elim
    | tuple _ => exact q.elim
    | dict _ => exact q.elim
  | tupN ds => exact q.elim
  | lstN ds => exact q.elim
theorem mt_val {da : SM EV} (ha : PE X a (TEo P W da)) (he : ∀ whole, isTrue a X.env whole = (do let v ← whole; standAt a.pos; holding [v] (truthy v)) := by intro _; rfl) :
    PT X a (TTo P W (tstE da)) := ptW (pt_val ha he) fun σ H Q ⟨c, g, Z, R, p⟩ => TEo.on R p fun x g1 v H1 Z1 s1 R1 vx p1 => by
  cases e1 : look g1 x with
  | none => rw [e1] at p1; exact p1.elim
  | some d =>
    rw [e1] at p1
    have rr := vx.rr R1 e1
    cases d with
    | bool k => exact ⟨k, rr.bl, p1 H1 Z1 s1 R1⟩
    | none => exact p1.elim
    | int _ => exact p1.elim
    | str _ => exact p1.elim
    | list _ => exact p1.elim
    | tuple _ => exact p1.elim
    | dict _ => exact p1.elim
theorem tru_of {K : PySem.W.Frag} {H Z : Hp} {v : V} {d : D} {b : Bool} (rr : Rr K H Z v d) (s : Same Z H) (e : truD d = some b) : TruV K v H b := by
  cases d with
  | none => cases e; rw [rr.non]; rfl
  | bool k => cases e; rw [rr.bl]; rfl
  | int i => cases e; rw [rr.int]; rfl
  | str x =>
    have e : (if x.length ≤ SZ then some ((x.length : Int) != 0) else none) = some b := e
    by_cases hl : x.length ≤ SZ
    · rw [if_pos hl] at e; cases e; rw [rr.str]; exact ⟨by rw [← SZ_eq]; exact hl, rfl⟩
    · rw [if_neg hl] at e; cases e
  | list ds =>
    cases e
    obtain ⟨a, vs, rfl, h, r⟩ := rr.lst s
    refine .inl ⟨vs, SqL.of h, ?_⟩
    have hl := dpA_len r
    cases vs <;> cases ds <;> first | rfl | (simp at hl)
  | tuple ds =>
    cases e
    obtain ⟨a, vs, rfl, h, r⟩ := rr.tup s
    refine .inr (.inl ⟨vs, h, ?_⟩)
    have hl := dpA_len r
    cases vs <;> cases ds <;> first | rfl | (simp at hl)
  | dict _ => cases e
theorem mt_tru {da : SM EV} (hK : P.K = X.K) (ha : PE X a (TEo P W da)) (he : ∀ whole, isTrue a X.env whole = (do let v ← whole; standAt a.pos; holding [v] (truthy v)) := by intro _; rfl) :
    PT X a (TTo P W (truE da)) := ptW (pt_truth ha he) fun σ H Q ⟨c, g, Z, R, p⟩ => TEo.on R p fun x g1 v H1 Z1 s1 R1 vx p1 => by
  cases e1 : look g1 x with
  | none => rw [e1] at p1; exact p1.elim
  | some d =>
    rw [e1] at p1
    simp only [Option.bind_some] at p1
    cases e2 : truD d with
    | none => rw [e2] at p1; exact p1.elim
    | some b => rw [e2] at p1; exact ⟨b, hK ▸ tru_of (vx.rr R1 e1) R1.sub e2, p1 H1 Z1 s1 R1⟩
theorem mw_and1 {t : SM Bool} (h : PT X a (TTo P W t)) : PW X (.BoolOp .And [a] pos) (TTo P W t) := pw_and1 h
theorem mw_or1 {t : SM Bool} (h : PT X a (TTo P W t)) : PW X (.BoolOp .Or [a] pos) (TTo P W t) := pw_or1 h
theorem mw_and {t u : SM Bool} {rest : List Expr} (ha : PT X a (TTo P W t)) (hb : PW X (.BoolOp .And (b :: rest) pos) (TTo P W u)) : PW X (.BoolOp .And (a :: b :: rest) pos) (TTo P W (andT t u)) :=
  pwW (pw_and ha hb) fun σ H Q ⟨c, g, Z, R, p⟩ => TTo.on R p fun k g1 H1 Z1 s1 R1 p1 => by
    cases k with
    | true => exact ⟨c, g1, Z1, R1, post_mono p1 (fun k2 g2 q H2 Z2 s2 R2 => q H2 Z2 (s1.trans s2) R2) fun _ _ _ _ q => q⟩
    | false => exact p1 H1 Z1 s1 R1
theorem mw_or {t u : SM Bool} {rest : List Expr} (ha : PT X a (TTo P W t)) (hb : PW X (.BoolOp .Or (b :: rest) pos) (TTo P W u)) : PW X (.BoolOp .Or (a :: b :: rest) pos) (TTo P W (orT t u)) :=
  pwW (pw_or ha hb) fun σ H Q ⟨c, g, Z, R, p⟩ => TTo.on R p fun k g1 H1 Z1 s1 R1 p1 => by
    cases k with
    | false => exact ⟨c, g1, Z1, R1, post_mono p1 (fun k2 g2 q H2 Z2 s2 R2 => q H2 Z2 (s1.trans s2) R2) fun _ _ _ _ q => q⟩
    | true => exact p1 H1 Z1 s1 R1
theorem mt_not {t : SM Bool} (h : PT X a (TTo P W t)) : PT X (.UnaryOp .Not a pos) (TTo P W (notT t)) :=
  ptW (pt_not h) fun σ H Q ⟨c, g, Z, R, p⟩ => TTo.on R p fun k g1 H1 Z1 s1 R1 p1 => p1 H1 Z1 s1 R1
theorem me_if {t : SM Bool} {da db : SM EV} {q : Expr} (h : PT X q (TTo P W t)) (ha : PE X a (TEo P W da)) (hb : PE X b (TEo P W db)) : PE X (.IfExp q a b pos) (TEo P W (ifE t da db)) :=
  peW (pe_ifExp h ha hb) fun σ H Q ⟨c, g, Z, R, p⟩ => TTo.on R p fun k g1 H1 Z1 s1 R1 p1 => by
    cases k with
    | true => exact ⟨c, g1, Z1, R1, post_mono p1 (fun k2 g2 q v H2 Z2 s2 R2 => q v H2 Z2 (s1.trans s2) R2) fun _ _ _ _ q => q⟩
    | false => exact ⟨c, g1, Z1, R1, post_mono p1 (fun k2 g2 q v H2 Z2 s2 R2 => q v H2 Z2 (s1.trans s2) R2) fun _ _ _ _ q => q⟩
/-! and, or, not as values of truth -/
def andV (a b : SM EV) : SM EV := bnd (tstE a) fun c => if c then b else ret (.fro (.bool false))
def orV (a b : SM EV) : SM EV := bnd (tstE a) fun c => if c then ret (.fro (.bool true)) else b
def notV (a : SM EV) : SM EV := bnd (tstE a) fun c => ret (.fro (.bool (!c)))
theorem tst_on {β : Type} {c : Ctx} {g : List Sl} {σ : St} {H Z : Hp} {ok : β → List Sl → Prop} {da : SM EV} {k : Bool → SM β} {R' : VK} (R : Rel P c g σ H Z) (p : Post ok (exK P c σ W) (bnd (tstE da) k g))
    (h : ∀ b g1 H1 Z1, Same Z Z1 → Rel P c g1 σ H1 Z1 → Post ok (exK P c σ W) (k b g1) → R' (.bl b) H1) : TEo P W da σ H R' := by
  have p' := post_bnd.mp p
  refine TEo.on R p' fun x g1 v H1 Z1 s1 R1 vx p1 => ?_
  cases e1 : look g1 x with
  | none => rw [e1] at p1; exact p1.elim
  | some d =>
    rw [e1] at p1
    have rr := vx.rr R1 e1
    cases d with
    | bool b => rw [rr.bl]; exact h b g1 H1 Z1 s1 R1 p1
    | none => exact p1.elim
    | int _ => exact p1.elim
    | str _ => exact p1.elim
    | list _ => exact p1.elim
    | tuple _ => exact p1.elim
    | dict _ => exact p1.elim
theorem me_and {da db : SM EV} {rest : List Expr} (ha : PE X a (TEo P W da)) (hb : PE X (.BoolOp .And (b :: rest) pos) (TEo P W db)) : PE X (.BoolOp .And (a :: b :: rest) pos) (TEo P W (andV da db)) :=
  peW (pe_and ha hb) fun σ H Q ⟨c, g, Z, R, p⟩ => tst_on R p fun k g1 H1 Z1 s1 R1 p1 => by
    refine ⟨k, rfl, ?_⟩
    cases k with
    | true => exact ⟨c, g1, Z1, R1, post_mono p1 (fun k2 g2 q v H2 Z2 s2 R2 => q v H2 Z2 (s1.trans s2) R2) fun _ _ _ _ q => q⟩
    | false => exact p1 _ H1 Z1 s1 R1 (.bl false)
theorem me_or {da db : SM EV} {rest : List Expr} (ha : PE X a (TEo P W da)) (hb : PE X (.BoolOp .Or (b :: rest) pos) (TEo P W db)) : PE X (.BoolOp .Or (a :: b :: rest) pos) (TEo P W (orV da db)) :=
  peW (pe_or ha hb) fun σ H Q ⟨c, g, Z, R, p⟩ => tst_on R p fun k g1 H1 Z1 s1 R1 p1 => by
    refine ⟨k, rfl, ?_⟩
    cases k with
    | false => exact ⟨c, g1, Z1, R1, post_mono p1 (fun k2 g2 q v H2 Z2 s2 R2 => q v H2 Z2 (s1.trans s2) R2) fun _ _ _ _ q => q⟩
    | true => exact p1 _ H1 Z1 s1 R1 (.bl true)
theorem me_one {op : BoolOp} {da : SM EV} (ha : PE X a (TEo P W da)) : PE X (.BoolOp op [a] pos) (TEo P W da) := pe_one ha
theorem me_not {da : SM EV} (ha : PE X a (TEo P W da)) : PE X (.UnaryOp .Not a pos) (TEo P W (notV da)) :=
  peW (pe_not ha) fun σ H Q ⟨c, g, Z, R, p⟩ => tst_on R p fun k g1 H1 Z1 s1 R1 p1 => ⟨k, rfl, p1 _ H1 Z1 s1 R1 (.bl _)⟩
/-- not of any value, by truth -/
def notX (a : SM EV) : SM EV := bnd (truE a) fun c => ret (.fro (.bool (!c)))
theorem me_notX {da : SM EV} (hK : P.K = X.K) (ha : PE X a (TEo P W da)) : PE X (.UnaryOp .Not a pos) (TEo P W (notX da)) :=
  peW (pe_notT ha) fun σ H Q ⟨c, g, Z, R, p⟩ => TEo.on R (post_bnd.mp p) fun x g1 v H1 Z1 s1 R1 vx p1 => by
    cases e1 : look g1 x with
    | none => rw [e1] at p1; exact p1.elim
    | some d =>
      rw [e1] at p1
      simp only [Option.bind_some] at p1
      cases e2 : truD d with
      | none => rw [e2] at p1; exact p1.elim
      | some b => rw [e2] at p1; exact ⟨b, hK ▸ tru_of (vx.rr R1 e1) R1.sub e2, p1 _ H1 Z1 s1 R1 (.bl _)⟩
end
end Mw
namespace Mw
open PySem L2

/-! ## operations upon data -/
def vI (i : Int) : Option Out := some (.val (.int i))
def vB (b : Bool) : Option Out := some (.val (.bool b))
def gd (b : Bool) (o : Option Out) : Option Out := if b then o else none
def mulOk (i j : Int) : Bool := decide (i.natAbs.log2 + j.natAbs.log2 < 1000000)
def divOk (j : Int) : Bool := decide (0 < j ∧ j.natAbs.log2 < 9000)
def powOk (i j : Int) : Bool := decide (0 ≤ j ∧ j ≤ 1000000 ∧ i.natAbs < 2 ^ 64)
def addD : D → D → Option Out
  | .int i, .int j => vI (i + j)
  | .str x, .str y => gd (decide (x.length + y.length ≤ SZ)) (some (.val (.str (x ++ y))))
  | .tuple xs, .tuple ys => gd (decide (xs.length + ys.length ≤ SZ)) (some (.tupN (xs ++ ys)))
  | .list xs, .list ys => gd (decide (xs.length + ys.length ≤ SZ)) (some (.lstN (xs ++ ys)))
  | _, _ => none
def subD : D → D → Option Out
  | .int i, .int j => vI (i - j)
  | _, _ => none
def mulD : D → D → Option Out
  | .int i, .int j => gd (mulOk i j) (vI (i * j))
  | .list xs, .int k => gd (decide (-(2 ^ 63) ≤ k ∧ k < 2 ^ 63 ∧ xs.length * k.toNat ≤ SZ)) (some (.lstN (List.replicate k.toNat xs).flatten))
  | _, _ => none
def divD : D → D → Option Out
  | .int i, .int j => gd (divOk j) (vI (i / j))
  | _, _ => none
def modD : D → D → Option Out
  | .int i, .int j => gd (decide (0 < j)) (vI (i % j))
  | _, _ => none
def powD : D → D → Option Out
  | .int i, .int j => gd (powOk i j) (vI (i ^ j.toNat))
  | _, _ => none
def negD : D → Option Out
  | .int i => vI (-i)
  | _ => none
def ltD : D → D → Option Out
  | .int i, .int j => vB (decide (i < j))
  | _, _ => none
def leD : D → D → Option Out
  | .int i, .int j => vB (decide (i ≤ j))
  | _, _ => none
def gtD : D → D → Option Out
  | .int i, .int j => vB (decide (j < i))
  | _, _ => none
def geD : D → D → Option Out
  | .int i, .int j => vB (decide (j ≤ i))
  | _, _ => none
def shp (d : D) : Bool := SeqAt.shaped d
def eqD (d e : D) : Option Out := gd (shp d && shp e) (vB (PyData.eqv d e))
def neD (d e : D) : Option Out := gd (shp d && shp e) (vB (!PyData.eqv d e))
def isNon : D → Bool
  | .none => true
  | _ => false
def isBl (b : Bool) : D → Bool
  | .bool c => c == b
  | _ => false
def flatD : D → Bool
  | .none => true
  | .bool _ => true
  | .int _ => true
  | .str _ => true
  | _ => false
def memD (x : D) (ds : List D) : Bool := ds.any fun y => PyData.eqv y x
def seqOf : D → Option (List D)
  | .list ds => some ds
  | .tuple ds => some ds
  | _ => none
def inD (neg : Bool) : D → D → Option Out
  | x, .list ds => gd (flatD x && ds.all flatD) (vB (if neg then !memD x ds else memD x ds))
  | x, .tuple ds => gd (flatD x && ds.all flatD) (vB (if neg then !memD x ds else memD x ds))
  | _, _ => none
def ixD : D → D → Option Out
  | .list ds, .int i => (atI ds i).map .val
  | .tuple ds, .int i => (atI ds i).map .val
  | .str z, .int i => gd (decide (z.length ≤ SZ)) ((atI z.cps.toList i).map fun c => .val (.str ⟨#[c]⟩))
  | _, _ => none

section
variable {X : Cx} {K : PySem.W.Frag}
theorem gd_some {b : Bool} {o : Option Out} {x : Out} (h : gd b o = some x) : b = true ∧ o = some x := by
  unfold gd at h
  cases b with
  | true => exact ⟨rfl, h⟩
  | false => cases h
abbrev rAdd : PySem.W.Frag → R2 := fun K x y H Q => (∃ i j, x = .int i ∧ y = .int j ∧ Q (.int (i + j)) H) ∨ (∃ i j, x = .str i ∧ y = .str j ∧ i.length + j.length ≤ sizeLine ∧ Q (.str (i ++ j)) H) ∨ rCatA K x y H Q ∨ rCat x y H Q
theorem o_add : OpR X (binaryOp .Add) (rAdd X.K) := OpR.or op_add (OpR.or op_add_str (OpR.or op_catA op_cat))
theorem s_add : Sound2 K (rAdd K) addD := by
  intro H Z x y d e o Q s hx hy h q
  cases d <;> cases e <;> first | (cases h; done) | skip
  · cases h; exact .inl ⟨_, _, hx.int, hy.int, q _ (.int _)⟩
  · obtain ⟨hb, h⟩ := gd_some h; cases h
    exact .inr (.inl ⟨_, _, hx.str, hy.str, by rw [← SZ_eq]; exact of_decide_eq_true hb, q _ (.str _)⟩)
  · obtain ⟨hb, h⟩ := gd_some h; cases h
    obtain ⟨a, vs, rfl, h1, r1⟩ := hx.lst s
    obtain ⟨b, ws, rfl, h2, r2⟩ := hy.lst s
    have hb := of_decide_eq_true hb
    exact .inr (.inr (.inr ⟨a, b, vs, ws, rfl, rfl, h1, h2, by rw [dpA_len r1, dpA_len r2, ← SZ_eq]; exact hb, fun p hp => q p _ hp (dpA_app r1 r2)⟩))
  · obtain ⟨hb, h⟩ := gd_some h; cases h
    obtain ⟨a, vs, rfl, h1, r1⟩ := hx.tup s
    obtain ⟨b, ws, rfl, h2, r2⟩ := hy.tup s
    have hb := of_decide_eq_true hb
    refine .inr (.inr (.inl ⟨a, b, vs, ws, rfl, rfl, h1, h2, by rw [dpA_len r1, dpA_len r2, ← SZ_eq]; exact hb, ?_, ?_, ?_⟩))
    · intro e; subst e
      cases r1 with
      | nil => exact q.1 _ hy.tupz
    · intro e1 e2; subst e2
      cases r2 with
      | nil => rw [List.append_nil] at q; exact q.1 _ hx.tupz
    · exact fun _ _ p hp => q.2 p _ hp (dpA_app r1 r2)
theorem s_int2 {f : Int → Int → Int} {F : D → D → Option Out} (hF : ∀ d e o, F d e = some o → ∃ i j, d = .int i ∧ e = .int j ∧ o = .val (.int (f i j))) : Sound2 K (rI0 fun i j => .int (f i j)) F := by
  intro H Z x y d e o Q s hx hy h q
  obtain ⟨i, j, rfl, rfl, rfl⟩ := hF d e o h
  exact ⟨i, j, hx.int, hy.int, q _ (.int _)⟩
theorem s_intC {C : Int → Int → Prop} {f : Int → Int → Int} {F : D → D → Option Out} (hF : ∀ d e o, F d e = some o → ∃ i j, d = .int i ∧ e = .int j ∧ C i j ∧ o = .val (.int (f i j))) : Sound2 K (rI C fun i j => .int (f i j)) F := by
  intro H Z x y d e o Q s hx hy h q
  obtain ⟨i, j, rfl, rfl, hc, rfl⟩ := hF d e o h
  exact ⟨i, j, hx.int, hy.int, hc, q _ (.int _)⟩
theorem s_intB {f : Int → Int → Bool} {F : D → D → Option Out} (hF : ∀ d e o, F d e = some o → ∃ i j, d = .int i ∧ e = .int j ∧ o = .val (.bool (f i j))) : Sound2 K (rI0 fun i j => .bl (f i j)) F := by
  intro H Z x y d e o Q s hx hy h q
  obtain ⟨i, j, rfl, rfl, rfl⟩ := hF d e o h
  exact ⟨i, j, hx.int, hy.int, q _ (.bl _)⟩
theorem s_sub : Sound2 K (rI0 fun i j => .int (i - j)) subD := s_int2 (f := fun i j => i - j) fun d e o h => by
  cases d <;> cases e <;> first | (cases h; done) | (cases h; exact ⟨_, _, rfl, rfl, rfl⟩)
theorem s_div : Sound2 K (rI CDivW fun i j => .int (i / j)) divD := s_intC fun d e o h => by
  cases d <;> cases e <;> first | (cases h; done) | (obtain ⟨hb, h⟩ := gd_some h; cases h; exact ⟨_, _, rfl, rfl, by simpa [divOk, mulOk, powOk, CDivW, CMulW, CPow] using hb, rfl⟩)
theorem s_mod : Sound2 K (rI (fun _ j => 0 < j) fun i j => .int (i % j)) modD := s_intC fun d e o h => by
  cases d <;> cases e <;> first | (cases h; done) | (obtain ⟨hb, h⟩ := gd_some h; cases h; exact ⟨_, _, rfl, rfl, by simpa [divOk, mulOk, powOk, CDivW, CMulW, CPow] using hb, rfl⟩)
theorem s_pow : Sound2 K (rI CPow fun i j => .int (i ^ j.toNat)) powD := s_intC fun d e o h => by
  cases d <;> cases e <;> first | (cases h; done) | (obtain ⟨hb, h⟩ := gd_some h; cases h; exact ⟨_, _, rfl, rfl, by simpa [divOk, mulOk, powOk, CDivW, CMulW, CPow] using hb, rfl⟩)
theorem o_mul : OpR X (binaryOp .Mult) (fun x y H Q => (rI CMulW fun i j => .int (i * j)) x y H Q ∨ rRep x y H Q) := OpR.or op_mulW op_rep
theorem dpA_rep {H : Hp} {ds : List D} {vs : List V} (h : DqAll K H vs ds) : ∀ n : Nat, DqAll K H (List.replicate n vs).flatten (List.replicate n ds).flatten
  | 0 => .nil
  | n + 1 => by
    rw [List.replicate_succ, List.replicate_succ, List.flatten_cons, List.flatten_cons]
    exact dpA_app h (dpA_rep h n)
theorem s_mul : Sound2 K (fun x y H Q => (rI CMulW fun i j => .int (i * j)) x y H Q ∨ rRep x y H Q) mulD := by
  intro H Z x y d e o Q s hx hy h q
  cases d <;> cases e <;> first | (cases h; done) | skip
  · obtain ⟨hb, h⟩ := gd_some h; cases h
    exact .inl ⟨_, _, hx.int, hy.int, by simpa [mulOk, CMulW] using hb, q _ (.int _)⟩
  · obtain ⟨hb, h⟩ := gd_some h; cases h
    obtain ⟨a, vs, rfl, h1, r1⟩ := hx.lst s
    obtain ⟨b1, b2, b3⟩ := of_decide_eq_true hb
    exact .inr ⟨a, _, vs, rfl, hy.int, h1, b1, b2, by rw [dpA_len r1, ← SZ_eq]; exact b3, fun p hp => q p _ hp (dpA_rep r1 _)⟩
theorem s_neg : Sound1 K (rU fun i => .int (-i)) negD := by
  intro H Z x d o Q s hx h q
  cases d <;> first | (cases h; done) | skip
  cases h
  exact ⟨_, hx.int, q _ (.int _)⟩
theorem s_lt : Sound2 K (rI0 fun i j => .bl (decide (i < j))) ltD := s_intB (f := fun i j => decide (i < j)) fun d e o h => by
  cases d <;> cases e <;> first | (cases h; done) | (cases h; exact ⟨_, _, rfl, rfl, rfl⟩)
theorem s_le : Sound2 K (rI0 fun i j => .bl (decide (i ≤ j))) leD := s_intB (f := fun i j => decide (i ≤ j)) fun d e o h => by
  cases d <;> cases e <;> first | (cases h; done) | (cases h; exact ⟨_, _, rfl, rfl, rfl⟩)
theorem s_gt : Sound2 K (rI0 fun i j => .bl (decide (j < i))) gtD := s_intB (f := fun i j => decide (j < i)) fun d e o h => by
  cases d <;> cases e <;> first | (cases h; done) | (cases h; exact ⟨_, _, rfl, rfl, rfl⟩)
theorem s_ge : Sound2 K (rI0 fun i j => .bl (decide (j ≤ i))) geD := s_intB (f := fun i j => decide (j ≤ i)) fun d e o h => by
  cases d <;> cases e <;> first | (cases h; done) | (cases h; exact ⟨_, _, rfl, rfl, rfl⟩)
theorem s_eq : Sound2 K (rEqD K) eqD := by
  intro H Z x y d e o Q s hx hy h q
  obtain ⟨hb, h⟩ := gd_some h; cases h
  have hb : shp d = true ∧ shp e = true := by simpa using hb
  exact ⟨d, e, dqD (hx.h s), dqD (hy.h s), hb.1, hb.2, q _ (.bl _)⟩
theorem s_ne : Sound2 K (rNeD K) neD := by
  intro H Z x y d e o Q s hx hy h q
  obtain ⟨hb, h⟩ := gd_some h; cases h
  have hb : shp d = true ∧ shp e = true := by simpa using hb
  exact ⟨d, e, dqD (hx.h s), dqD (hy.h s), hb.1, hb.2, q _ (.bl _)⟩
theorem flat_of {H Z : Hp} {v : V} {d : D} (h : Dq K Z v d) (f : flatD d = true) : flatV v = true := by
  cases d <;> first | (cases f; done) | (cases h; rfl)
theorem flatA {Z : Hp} : ∀ {ds : List D} {vs : List V}, DqAll K Z vs ds → ds.all flatD = true → vs.all flatV = true
  | [], _, h, _ => by cases h; rfl
  | d :: ds, _, h, f => by
    cases h with
    | cons h1 h2 =>
      simp only [List.all_cons, Bool.and_eq_true] at f ⊢
      exact ⟨flat_of (H := Z) h1 f.1, flatA h2 f.2⟩
theorem eqv_flat {Z : Hp} {v w : V} {d e : D} (h : Dq K Z v d) (h' : Dq K Z w e) (f : flatD d = true) (f' : flatD e = true) : eqV v w = PyData.eqv d e := by
  cases d <;> first | (cases f; done) | skip
  all_goals cases e <;> first | (cases f'; done) | skip
  all_goals cases h; cases h'; first | rfl | (simp [eqV, PyData.eqv])
theorem memA {Z : Hp} {x : V} {d : D} (hx : Dq K Z x d) (fx : flatD d = true) : ∀ {ds : List D} {vs : List V}, DqAll K Z vs ds → ds.all flatD = true → inV x vs = memD d ds
  | [], _, h, _ => by cases h; rfl
  | e :: ds, _, h, f => by
    cases h with
    | cons h1 h2 =>
      simp only [List.all_cons, Bool.and_eq_true] at f
      have ih := memA hx fx h2 f.2
      unfold inV memD at ih ⊢
      rw [List.any_cons, List.any_cons, ih, eqv_flat h1 hx f.1 fx]
theorem rr_flat {H Z : Hp} {v : V} {d : D} (h : Rr K H Z v d) (f : flatD d = true) : Dq K Z v d := by
  cases h with
  | z h => exact h
  | l h r => cases f
theorem s_in {neg : Bool} : Sound2 K (rIn K neg) (inD neg) := by
  intro H Z x y d e o Q s hx hy h q
  cases e <;> first | (cases h; done) | skip
  · obtain ⟨hb, h⟩ := gd_some h; cases h
    have hb := Bool.and_eq_true_iff.mp hb
    obtain ⟨a, vs, rfl, h1, r1⟩ := hy.lst s
    have hx := rr_flat hx hb.1
    refine ⟨a, vs, rfl, .inl (SqL.of h1), flat_of (H := Z) hx hb.1, flatA r1 hb.2, ?_⟩
    rw [memA hx hb.1 r1 hb.2]
    exact q _ (.bl _)
  · obtain ⟨hb, h⟩ := gd_some h; cases h
    have hb := Bool.and_eq_true_iff.mp hb
    obtain ⟨a, vs, rfl, h1, r1⟩ := hy.tup s
    have hx := rr_flat hx hb.1
    refine ⟨a, vs, rfl, .inr h1, flat_of (H := Z) hx hb.1, flatA r1 hb.2, ?_⟩
    rw [memA hx hb.1 r1 hb.2]
    exact q _ (.bl _)
theorem atI_len {α β : Type} {xs : List α} {ys : List β} {i : Int} {y : β} (hl : xs.length = ys.length) (h : atI ys i = some y) : ∃ (j : Nat) (x : α), xs[j]? = some x ∧ ys[j]? = some y ∧ atI xs i = some x := by
  unfold atI at h ⊢
  rw [hl]
  cases e : ixN ys.length i with
  | none => rw [e] at h; cases h
  | some j =>
    rw [e] at h
    have h : ys[j]? = some y := h
    have hj : j < xs.length := by
      rw [hl]
      exact (List.getElem?_eq_some_iff.mp h).1
    exact ⟨j, xs[j], List.getElem?_eq_getElem hj, h, by show xs[j]? = _; exact List.getElem?_eq_getElem hj⟩
theorem s_ix : Sound2 K (rIx K) ixD := by
  intro H Z x y d e o Q s hx hy h q
  cases d <;> cases e <;> first | (cases h; done) | skip
  · rename_i z i
    obtain ⟨hb, h⟩ := gd_some h
    cases e1 : atI z.cps.toList i with
    | none => rw [e1] at h; cases h
    | some c =>
      rw [e1] at h; cases h
      exact .inr (.inr ⟨z, i, c, hx.str, hy.int, by rw [← SZ_eq]; exact of_decide_eq_true hb, e1, q _ (.str _)⟩)
  · rename_i ds i
    have h : (atI ds i).map Out.val = some o := h
    cases e1 : atI ds i with
    | none => rw [e1] at h; cases h
    | some d =>
      rw [e1] at h; cases h
      obtain ⟨a, vs, rfl, h1, r1⟩ := hx.lst s
      obtain ⟨j, v, e2, e3, e4⟩ := atI_len (dpA_len r1) e1
      obtain ⟨w, e5, r5⟩ := dpA_get r1 e3
      rw [e2] at e5; cases e5
      exact .inl ⟨a, vs, i, v, rfl, hy.int, SqL.of h1, e4, q _ r5⟩
  · rename_i ds i
    have h : (atI ds i).map Out.val = some o := h
    cases e1 : atI ds i with
    | none => rw [e1] at h; cases h
    | some d =>
      rw [e1] at h; cases h
      obtain ⟨a, vs, rfl, h1, r1⟩ := hx.tup s
      obtain ⟨j, v, e2, e3, e4⟩ := atI_len (dpA_len r1) e1
      obtain ⟨w, e5, r5⟩ := dpA_get r1 e3
      rw [e2] at e5; cases e5
      exact .inr (.inl ⟨a, vs, i, v, rfl, hy.int, h1, e4, q _ r5⟩)
end
end Mw
namespace Mw
open PySem L2

/-! ## statements -/
inductive Fl where
  | nx
  | rt (e : EV)
  | bk
  | ct
def FlP (P : Pa) (c : Ctx) (Dd : Ends) (Z : Hp) (g : List Sl) : Fl → Prop
  | .nx => ∀ σ' H' Z', Same Z Z' → Rel P c g σ' H' Z' → Dd.nx σ' H'
  | .bk => ∀ σ' H' Z', Same Z Z' → Rel P c g σ' H' Z' → Dd.bk σ' H'
  | .ct => ∀ σ' H' Z', Same Z Z' → Rel P c g σ' H' Z' → Dd.ct σ' H'
  | .rt ev => ∀ v σ' H' Z', Same Z Z' → Rel P c g σ' H' Z' → VR P c g σ' H' Z' v ev → Dd.rt v H'
theorem FlP.mono {P : Pa} {c : Ctx} {Dd : Ends} {Z Z' : Hp} {g : List Sl} {f : Fl} (h : FlP P c Dd Z g f) (s : Same Z Z') : FlP P c Dd Z' g f := by
  cases f with
  | nx => exact fun σ' H' Z2 s2 R => h σ' H' Z2 (s.trans s2) R
  | bk => exact fun σ' H' Z2 s2 R => h σ' H' Z2 (s.trans s2) R
  | ct => exact fun σ' H' Z2 s2 R => h σ' H' Z2 (s.trans s2) R
  | rt ev => exact fun v σ' H' Z2 s2 R r => h v σ' H' Z2 (s.trans s2) R r
def exS (P : Pa) (c : Ctx) (W : WX) : Nat → Str → D → List Sl → Prop := fun k f p g => ∀ dd v σ' H' Z', Z' dd = some (.xd [(f, v)]) → Dq P.K Z' v p → Rel P c g σ' H' Z' → W (.ref (P.cA k)) (some dd) σ' H'
def TSo (P : Pa) (W : WX) (de : SM Fl) : TS := fun Dd σ H => ∃ c g Z, Rel P c g σ H Z ∧ Post (fun fl g' => FlP P c Dd Z g' fl) (exS P c W) (de g)
theorem exS_K {P : Pa} {c : Ctx} {W : WX} {σ : St} {k : Nat} {f : Str} {p : D} {g : List Sl} (h : exS P c W k f p g) : exK P c σ W k f p g := fun dd v H' Z' e r R => h dd v σ H' Z' e r R
section
variable {P : Pa} {c : Ctx} {g : List Sl} {σ : St} {H Z : Hp} {W : WX} {β : Type} {ok : β → List Sl → Prop}
theorem TEo.onS {da : SM EV} {k : EV → SM β} {R' : VK} (R : Rel P c g σ H Z) (p : Post ok (exS P c W) (bnd da k g))
    (h : ∀ ev g1 v H1 Z1, Same Z Z1 → Rel P c g1 σ H1 Z1 → VR P c g1 σ H1 Z1 v ev → Post ok (exS P c W) (k ev g1) → R' v H1) : TEo P W da σ H R' :=
  ⟨c, g, Z, R, post_mono (post_bnd.mp p) (fun ev g1 q v H1 Z1 sz R1 vr => h _ g1 v H1 Z1 sz R1 vr q) fun _ _ _ _ q => exS_K q⟩
theorem TTo.onS {da : SM Bool} {k : Bool → SM β} {R' : Bool → Hp → Prop} (R : Rel P c g σ H Z) (p : Post ok (exS P c W) (bnd da k g))
    (h : ∀ b g1 H1 Z1, Same Z Z1 → Rel P c g1 σ H1 Z1 → Post ok (exS P c W) (k b g1) → R' b H1) : TTo P W da σ H R' :=
  ⟨c, g, Z, R, post_mono (post_bnd.mp p) (fun b g1 q H1 Z1 sz R1 => h b g1 H1 Z1 sz R1 q) fun _ _ _ _ q => exS_K q⟩
theorem TAo.onS {da : SM (List EV)} {k : List EV → SM β} {R' : List V → Hp → Prop} (R : Rel P c g σ H Z) (p : Post ok (exS P c W) (bnd da k g))
    (h : ∀ evs g1 vs H1 Z1, Same Z Z1 → Rel P c g1 σ H1 Z1 → VPL P σ Z1 vs evs → Post ok (exS P c W) (k evs g1) → R' vs H1) : TAo P W da σ H R' :=
  ⟨c, g, Z, R, post_mono (post_bnd.mp p) (fun b g1 q vs H1 Z1 sz R1 vp => h b g1 vs H1 Z1 sz R1 vp q) fun _ _ _ _ q => exS_K q⟩
end
def nxS : SM Fl := ret .nx
def bkS : SM Fl := ret .bk
def ctS : SM Fl := ret .ct
def seqS (s t : SM Fl) : SM Fl := bnd s fun fl => match fl with
  | .nx => t
  | .rt e => ret (.rt e)
  | .bk => ret .bk
  | .ct => ret .ct
def ifS (t : SM Bool) (a b : SM Fl) : SM Fl := bnd t fun c => if c then a else b
def exprS (da : SM EV) : SM Fl := bnd da fun _ => ret .nx
/-- a slot is stored -/
def setS (i : Nat) (s : Sl) : SM Fl := fun g => match g[i]? with
  | some (.bor _) => .stuck
  | some _ => .ok (.nx, g.set i s)
  | none => .stuck
def mvE : EV → SM Sl
  | .fro d => ret (.fro d)
  | .own ds => ret (.own ds)
  | .var j => bnd (esc (.var j)) fun d => ret (.fro d)
def asgS (i : Nat) (da : SM EV) : SM Fl := bnd da fun ev => bnd (mvE ev) fun s => setS i s
def retV (i : Nat) : SM Fl := fun g => match g[i]? with
  | some (.own ds) => .ok (.rt (.own ds), g.set i .un)
  | some (.fro d) => .ok (.rt (.fro d), g)
  | _ => .stuck
def retE : EV → SM Fl
  | .fro d => ret (.rt (.fro d))
  | .own ds => ret (.rt (.own ds))
  | .var i => retV i
def retS (da : SM EV) : SM Fl := bnd da retE
section
variable {P : Pa} {c : Ctx} {g : List Sl} {σ : St} {H Z : Hp} {W : WX}
/-- what is known of a slot is forgotten -/
theorem Rel.forget (R : Rel P c g σ H Z) (i : Nat) (v : Option V) : Rel P c (g.set i .un) (σ.set i v) H Z := by
  by_cases hi : i < σ.length
  · exact R.put hi trivial (fun z => nomatch z) (fun _ z => nomatch z)
  · have e1 : σ.set i v = σ := List.set_eq_of_length_le (by omega)
    have e2 : g.set i .un = g := List.set_eq_of_length_le (by rw [R.len]; omega)
    rw [e1, e2]; exact R
theorem Rel.un (R : Rel P c g σ H Z) (i : Nat) : Rel P c (g.set i .un) σ H Z := by
  by_cases hi : i < σ.length
  · have e : σ.set i σ[i] = σ := List.set_getElem_self hi
    have := R.forget i σ[i]
    rw [e] at this; exact this
  · have e2 : g.set i .un = g := List.set_eq_of_length_le (by rw [R.len]; omega)
    rw [e2]; exact R
theorem setS_ok {i : Nat} {s : Sl} {Dd : Ends} {v : V} {ex : Nat → Str → D → List Sl → Prop} (R : Rel P c g σ H Z) (ok : SlOk P c H Z (some (some v)) s)
    (hd : isO (some s) = true → ∀ a, v = .ref a → ∀ j : Nat, isO g[j]? = true → σ[j]? ≠ some (some (.ref a))) (hb : ∀ ds, s ≠ .bor ds)
    (p : Post (fun fl g' => FlP P c Dd Z g' fl) ex (setS i s g)) : Dd.nx (σ.set i (some v)) H := by
  unfold setS at p
  cases es : g[i]? with
  | none => rw [es] at p; exact p.elim
  | some t =>
    rw [es] at p
    have hi : i < σ.length := by rw [← R.len]; exact (List.getElem?_eq_some_iff.mp es).1
    have R' : Rel P c (g.set i s) (σ.set i (some v)) H Z := R.put hi ok (fun h a e j _ hj => hd h a (Option.some.inj e) j hj) hb
    cases t with
    | bor ds => exact p.elim
    | un => exact p _ _ Z (Same.refl _) R'
    | fro _ => exact p _ _ Z (Same.refl _) R'
    | own _ => exact p _ _ Z (Same.refl _) R'
    | exc _ _ _ => exact p _ _ Z (Same.refl _) R'
    | scr _ => exact p _ _ Z (Same.refl _) R'
/-- the end of an assignment to a name -/
theorem asg_ok {i : Nat} {Dd : Ends} {v : V} {ev : EV} {Z0 : Hp} {ex : Nat → Str → D → List Sl → Prop} (R : Rel P c g σ H Z) (s0 : Same Z0 Z) (vr : VR P c g σ H Z v ev)
    (p : Post (fun fl g' => FlP P c Dd Z0 g' fl) ex (bnd (mvE ev) (fun s => setS i s) g)) : Dd.nx (σ.set i (some v)) H := by
  have p := post_bnd.mp p
  cases ev with
  | fro d =>
    exact setS_ok (s := .fro d) (Dd := Dd) R ⟨v, rfl, vr⟩ (fun z => nomatch z) (fun _ z => nomatch z) (post_mono p (fun fl g' q => q.mono s0) fun _ _ _ _ q => q)
  | own ds =>
    obtain ⟨a, vs, rfl, h1, h2, h3, r, hn⟩ := vr
    exact setS_ok (s := .own ds) (Dd := Dd) R ⟨a, vs, rfl, h1, h2, h3, r⟩ (fun _ b e j hj => by cases e; exact hn j hj) (fun _ z => nomatch z) (post_mono p (fun fl g' q => q.mono s0) fun _ _ _ _ q => q)
  | var j =>
    have vr : VP P σ Z v (.var j) := vr
    obtain ⟨d, g1, Z1, s1, R1, r1, p1⟩ := esc_ok R vr (post_bnd.mp p)
    exact setS_ok (s := .fro d) (Dd := Dd) R1 ⟨v, rfl, r1⟩ (fun z => nomatch z) (fun _ z => nomatch z) (post_mono p1 (fun fl g' q => q.mono (s0.trans s1)) fun _ _ _ _ q => q)
theorem ret_ok {Dd : Ends} {v : V} {ev : EV} {Z0 : Hp} {ex : Nat → Str → D → List Sl → Prop} (R : Rel P c g σ H Z) (s0 : Same Z0 Z) (vr : VR P c g σ H Z v ev)
    (p : Post (fun fl g' => FlP P c Dd Z0 g' fl) ex (retE ev g)) : Dd.rt v H := by
  cases ev with
  | fro d => exact p v σ H Z s0 R vr
  | own ds => exact p v σ H Z s0 R vr
  | var i =>
    have vr : σ[i]? = some (some v) := vr
    have p : Post (fun fl g' => FlP P c Dd Z0 g' fl) ex (retV i g) := p
    unfold retV at p
    cases es : g[i]? with
    | none => rw [es] at p; exact p.elim
    | some t =>
      rw [es] at p
      cases t with
      | un => exact p.elim
      | bor _ => exact p.elim
      | exc _ _ _ => exact p.elim
      | scr _ => exact p.elim
      | fro d =>
        obtain ⟨w, e1, r⟩ := R.sl i _ es
        rw [vr] at e1; cases e1
        exact p v σ H Z s0 R r
      | own ds =>
        obtain ⟨a, vs, e1, h1, h2, h3, r⟩ := R.sl i _ es
        rw [vr] at e1; cases e1
        refine p _ σ H Z s0 (R.un i) ⟨a, vs, rfl, h1, h2, h3, r, fun j hj e => ?_⟩
        have hj' : isO g[j]? = true := isO_set rfl hj
        by_cases hji : j = i
        · subst hji
          have : j < g.length := (List.getElem?_eq_some_iff.mp es).1
          rw [List.getElem?_set_self this] at hj
          cases hj
        · exact R.ds i j a (Ne.symm hji) (by rw [es]; rfl) hj' vr e
end
section
variable {X : Cx} {P : Pa} {W : WX} {e a b : Expr} {es : List Expr} {pos : Pos} {st : Stmt} {rest : List Stmt}
theorem ms_nil : PSs X [] (TSo P W nxS) := pssW pss_nil fun Dd σ H ⟨c, g, Z, R, p⟩ => p σ H Z (Same.refl _) R
theorem ms_pass : PS X (.Pass pos) (TSo P W nxS) := psW ps_pass fun Dd σ H ⟨c, g, Z, R, p⟩ => p σ H Z (Same.refl _) R
theorem ms_break : PS X (.Break pos) (TSo P W bkS) := psW ps_break fun Dd σ H ⟨c, g, Z, R, p⟩ => p σ H Z (Same.refl _) R
theorem ms_cont : PS X (.Continue pos) (TSo P W ctS) := psW ps_continue fun Dd σ H ⟨c, g, Z, R, p⟩ => p σ H Z (Same.refl _) R
theorem ms_cons {s t : SM Fl} (h1 : PS X st (TSo P W s)) (h2 : PSs X rest (TSo P W t)) : PSs X (st :: rest) (TSo P W (seqS s t)) :=
  pssW (pss_cons h1 h2) fun Dd σ H ⟨c, g, Z, R, p⟩ => ⟨c, g, Z, R, post_mono (post_bnd.mp p) (fun fl g1 q => by
    cases fl with
    | nx => exact fun σ' H' Z' s' R' => ⟨c, g1, Z', R', post_mono q (fun fl g2 q => q.mono s') fun _ _ _ _ q => q⟩
    | rt e => exact q
    | bk => exact q
    | ct => exact q) fun _ _ _ _ q => q⟩
theorem ms_one {s : SM Fl} (h1 : PS X st (TSo P W s)) : PSs X [st] (TSo P W s) := pss_one h1
theorem ms_if {t : SM Bool} {s u : SM Fl} {p q : List Stmt} (hc : PT X e (TTo P W t)) (ha : PSs X p (TSo P W s)) (hb : PSs X q (TSo P W u)) : PS X (.If e p q pos) (TSo P W (ifS t s u)) :=
  psW (ps_if hc ha hb) fun Dd σ H ⟨c, g, Z, R, p⟩ => TTo.onS R p fun k g1 H1 Z1 s1 R1 p1 => by
    cases k with
    | true => exact ⟨c, g1, Z1, R1, post_mono p1 (fun fl g2 q => q.mono s1) fun _ _ _ _ q => q⟩
    | false => exact ⟨c, g1, Z1, R1, post_mono p1 (fun fl g2 q => q.mono s1) fun _ _ _ _ q => q⟩
theorem ms_expr {da : SM EV} (h : PE X e (TEo P W da)) (hs : swapsWith e none pos.line X.env = pure false := by rfl) : PS X (.Expr e pos) (TSo P W (exprS da)) :=
  psW (ps_expr h hs) fun Dd σ H ⟨c, g, Z, R, p⟩ => TEo.onS R p fun ev g1 v H1 Z1 s1 R1 vr p1 => p1 σ H1 Z1 s1 R1
theorem ms_ret {da : SM EV} (h : PE X e (TEo P W da)) : PS X (.Return (some e) pos) (TSo P W (retS da)) :=
  psW (ps_ret h) fun Dd σ H ⟨c, g, Z, R, p⟩ => TEo.onS R p fun ev g1 v H1 Z1 s1 R1 vr p1 => ret_ok R1 s1 vr p1
theorem ms_retN : PS X (.Return none pos) (TSo P W (ret (.rt (.fro .none)))) :=
  psW ps_retN fun Dd σ H ⟨c, g, Z, R, p⟩ => p .non σ H Z (Same.refl _) R .non
theorem ms_asg {i : Nat} {da : SM EV} {te : TE} (h : PS X st (tAsg te (gName i))) (w : ∀ σ H Q, TEo P W da σ H Q → te σ H Q) : PS X st (TSo P W (asgS i da)) :=
  psW h fun Dd σ H ⟨c, g, Z, R, p⟩ => w _ _ _ (TEo.onS R p fun ev g1 v H1 Z1 s1 R1 vr p1 => asg_ok R1 s1 vr p1)
end

/-! ## targets -/
/-- the slots of a target; how they are stored -/
inductive Tg where
  | one (i : Nat)
  | tup (is : List Nat)
def setL : List Nat → List D → SM Unit
  | [], [] => ret ()
  | i :: is, d :: ds => bnd (setS i (.fro d)) fun _ => setL is ds
  | _, _ => fun _ => .stuck
def Tg.put : Tg → D → SM Unit
  | .one i, d => bnd (setS i (.fro d)) fun _ => ret ()
  | .tup is, .tuple ds => setL is ds
  | .tup _, _ => fun _ => .stuck
def Tg.slots : Tg → List Nat
  | .one i => [i]
  | .tup is => is
/-- slots stored one after the other -/
def sets : List Nat → List V → St → St
  | i :: is, v :: vs, σ => sets is vs (σ.set i (some v))
  | _, _, σ => σ
def TGo (P : Pa) (t : Tg) : TG := fun v σ H Q => ∃ c g Z d, Rel P c g σ H Z ∧ Dq P.K Z v d ∧
  Post (fun _ g' => ∀ vs, Rel P c g' (sets t.slots vs σ) H Z → Q (sets t.slots vs σ) H) (fun _ _ _ _ => False) (t.put d g)
section
variable {X : Cx} {P : Pa} {c : Ctx} {e : Expr} {es : List Expr}
theorem setS_post {i : Nat} {s : Sl} {g : List Sl} {σ : St} {H Z : Hp} {v : V} {ok : Fl → List Sl → Prop} {ex : Nat → Str → D → List Sl → Prop} (R : Rel P c g σ H Z) (ok' : SlOk P c H Z (some (some v)) s)
    (hd : isO (some s) = true → ∀ a, v = .ref a → ∀ j : Nat, isO g[j]? = true → σ[j]? ≠ some (some (.ref a))) (hb : ∀ ds, s ≠ .bor ds)
    (p : Post ok ex (setS i s g)) : ∃ g', Rel P c g' (σ.set i (some v)) H Z ∧ ok .nx g' := by
  unfold setS at p
  cases es : g[i]? with
  | none => rw [es] at p; exact p.elim
  | some t =>
    rw [es] at p
    have hi : i < σ.length := by rw [← R.len]; exact (List.getElem?_eq_some_iff.mp es).1
    have R' : Rel P c (g.set i s) (σ.set i (some v)) H Z := R.put hi ok' (fun h a e j _ hj => hd h a (Option.some.inj e) j hj) hb
    cases t with
    | bor ds => exact p.elim
    | un => exact ⟨_, R', p⟩
    | fro _ => exact ⟨_, R', p⟩
    | own _ => exact ⟨_, R', p⟩
    | exc _ _ _ => exact ⟨_, R', p⟩
    | scr _ => exact ⟨_, R', p⟩
theorem setL_ok {H Z : Hp} : ∀ {is : List Nat} {ds : List D} {vs : List V} {g : List Sl} {σ : St} {ok : Unit → List Sl → Prop} {ex : Nat → Str → D → List Sl → Prop}, Rel P c g σ H Z → DqAll P.K Z vs ds → Post ok ex (setL is ds g) →
    vs.length = is.length ∧ ∃ g', Rel P c g' (sets is vs σ) H Z ∧ ok () g'
  | [], [], _, g, σ, ok, ex, R, h, p => by cases h; exact ⟨rfl, g, R, p⟩
  | i :: is, d :: ds, _, g, σ, ok, ex, R, h, p => by
    cases h with
    | cons h1 h2 =>
      obtain ⟨g1, R1, p1⟩ := setS_post (s := .fro d) R ⟨_, rfl, h1⟩ (fun z => nomatch z) (fun _ z => nomatch z) (post_bnd.mp p)
      obtain ⟨hl, g2, R2, p2⟩ := setL_ok R1 h2 p1
      exact ⟨by rw [List.length_cons, List.length_cons, hl], g2, R2, p2⟩
  | [], _ :: _, _, _, _, _, _, _, _, p => p.elim
  | _ :: _, [], _, _, _, _, _, _, _, p => p.elim
/-- the targets of a tuple, names alone -/
def gNames : List Nat → TGs
  | [] => gNil
  | i :: is => gCons (gName i) (gNames is)
theorem gNames_ok : ∀ {is : List Nat} {vs : List V} {σ : St} {H : Hp} {Q : St → Hp → Prop}, vs.length = is.length → Q (sets is vs σ) H → gNames is vs σ H Q
  | [], [], _, _, _, _, q => ⟨rfl, q⟩
  | i :: is, v :: vs, σ, H, Q, hl, q => ⟨v, vs, rfl, gNames_ok (Nat.succ.inj hl) q⟩
  | [], _ :: _, _, _, _, hl, _ => nomatch hl
  | _ :: _, [], _, _, _, hl, _ => nomatch hl
theorem pgW {t t' : TG} (h : PG X e t) (w : ∀ v σ H Q, t' v σ H Q → t v σ H Q) : PG X e t' := ⟨fun pins s σ H v u Q I r q => h.run pins s σ H v u Q I r (w v σ H Q q)⟩
theorem mg_name {i : Nat} (h : PG X e (gName i)) : PG X e (TGo P (.one i)) := pgW h fun v σ H Q ⟨c, g, Z, d, R, r, p⟩ => by
  obtain ⟨g1, R1, p1⟩ := setS_post (s := .fro d) (v := v) R ⟨v, rfl, r⟩ (fun z => nomatch z) (fun _ z => nomatch z) (post_bnd.mp p)
  exact p1 [v] R1
theorem mg_tup {n : Nat} {is : List Nat} (h : PG X e (gTup P.K n (gNames is))) (hn : is.length = n) : PG X e (TGo P (.tup is)) := pgW h fun v σ H Q ⟨c, g, Z, d, R, r, p⟩ => by
  cases d with
  | tuple ds =>
    cases r with
    | tup h1 h2 =>
      obtain ⟨hl, g1, R1, p1⟩ := setL_ok R h2 p
      exact ⟨_, _, rfl, seqT R.sub h1, hl.trans hn, gNames_ok hl (p1 _ R1)⟩
  | none => exact p.elim
  | bool _ => exact p.elim
  | int _ => exact p.elim
  | str _ => exact p.elim
  | list _ => exact p.elim
  | dict _ => exact p.elim
theorem tg_ok {t : Tg} {d : D} {v : V} {g : List Sl} {σ : St} {H Z : Hp} {ok : Unit → List Sl → Prop} {ex : Nat → Str → D → List Sl → Prop} (R : Rel P c g σ H Z) (r : Dq P.K Z v d) (p : Post ok ex (t.put d g)) :
    ∃ vs g', Rel P c g' (sets t.slots vs σ) H Z ∧ ok () g' := by
  cases t with
  | one i =>
    obtain ⟨g1, R1, p1⟩ := setS_post (s := .fro d) (v := v) R ⟨v, rfl, r⟩ (fun z => nomatch z) (fun _ z => nomatch z) (post_bnd.mp p)
    exact ⟨[v], g1, R1, p1⟩
  | tup is =>
    cases d with
    | tuple ds =>
      cases r with
      | tup h1 h2 =>
        obtain ⟨hl, g1, R1, p1⟩ := setL_ok R h2 p
        exact ⟨_, g1, R1, p1⟩
    | none => exact p.elim
    | bool _ => exact p.elim
    | int _ => exact p.elim
    | str _ => exact p.elim
    | list _ => exact p.elim
    | dict _ => exact p.elim
end
section
theorem put_noex {t : Tg} {d : D} {g : List Sl} {k f p g'} : t.put d g = .exn k f p g' → False := by
  have a : ∀ (i : Nat) (s : Sl) (g : List Sl) k f p g', setS i s g = .exn k f p g' → False := by
    intro i s g k f p g' h
    unfold setS at h
    split at h <;> cases h
  have b : ∀ (is : List Nat) (ds : List D) (g : List Sl) k f p g', setL is ds g = .exn k f p g' → False := by
    intro is
    induction is with
    | nil => intro ds g k f p g' h; cases ds <;> cases h
    | cons i is ih =>
      intro ds g k f p g' h
      cases ds with
      | nil => cases h
      | cons d ds =>
        unfold setL bnd at h
        cases e : setS i (.fro d) g with
        | ok x => rw [e] at h; exact ih _ _ _ _ _ _ h
        | exn k2 f2 p2 g2 => exact a _ _ _ _ _ _ _ e
        | stuck => rw [e] at h; cases h
  intro h
  cases t with
  | one i =>
    have h : bnd (setS i (.fro d)) (fun _ => ret ()) g = Res.exn k f p g' := h
    unfold bnd at h
    cases e : setS i (.fro d) g with
    | ok x => rw [e] at h; cases h
    | exn k2 f2 p2 g2 => exact a _ _ _ _ _ _ _ e
    | stuck => rw [e] at h; cases h
  | tup is =>
    cases d with
    | tuple ds => exact b _ _ _ _ _ _ _ h
    | none => cases h
    | bool _ => cases h
    | int _ => cases h
    | str _ => cases h
    | list _ => cases h
    | dict _ => cases h
theorem put_post {t : Tg} {d : D} {g : List Sl} {ok : Unit → List Sl → Prop} {ex ex' : Nat → Str → D → List Sl → Prop} (p : Post ok ex (t.put d g)) : Post ok ex' (t.put d g) := by
  cases e : t.put d g with
  | ok x => rw [e] at p; exact p
  | exn k f p' g' => exact (put_noex e).elim
  | stuck => rw [e] at p; exact p.elim
end

/-! ## what is walked -/
def YD (P : Pa) (Z H : Hp) (x : V) (H' : Hp) (d : D) : Prop :=
  (H' = H ∧ Dq P.K Z x d) ∨ ∃ T v w dv dw, x = .ref T ∧ H T = none ∧ H' = upd H T (.tup [v, w]) ∧ d = .tuple [dv, dw] ∧ Dq P.K Z v dv ∧ Dq P.K Z w dw
structure WalkD (P : Pa) (Z : Hp) (J : It) (ds : List D) : Prop where
  go : ∀ i H, i < ds.length → Same Z H → J.go i H
  stop : ∀ H, Same Z H → J.stop ds.length H
  yld : ∀ i H x H', i < ds.length → Same Z H → J.yld i H x H' → ∃ d, ds[i]? = some d ∧ YD P Z H x H' d
theorem WalkD.mono {P : Pa} {Z Z' : Hp} {J : It} {ds : List D} (w : WalkD P Z J ds) (s : Same Z Z') : WalkD P Z' J ds :=
  ⟨fun i H hi h => w.go i H hi (s.trans h), fun H h => w.stop H (s.trans h), fun i H x H' hi h y => by
    obtain ⟨d, e, yd⟩ := w.yld i H x H' hi (s.trans h) y
    refine ⟨d, e, ?_⟩
    rcases yd with ⟨e1, r⟩ | ⟨T, v, w', dv, dw, e1, e2, e3, e4, r1, r2⟩
    · exact .inl ⟨e1, dpM s r⟩
    · exact .inr ⟨T, v, w', dv, dw, e1, e2, e3, e4, dpM s r1, dpM s r2⟩⟩
def TIo (P : Pa) (W : WX) (de : SM (List D)) : TI := fun σ H R => ∃ c g Z, Rel P c g σ H Z ∧
  Post (fun ds g' => ∀ H' Z' J, Same Z Z' → Rel P c g' σ H' Z' → WalkD P Z' J ds → R J H') (exK P c σ W) (de g)
theorem piW {X : Cx} {tg e : Expr} {t t' : TI} (h : PI X tg e t) (w : ∀ σ H R, t' σ H R → t σ H R) : PI X tg e t' := ⟨fun pins s σ H R I q => h.run pins s σ H R I (w σ H R q)⟩
/-- an item comes: its new pair is frozen -/
theorem yd_in {P : Pa} {c : Ctx} {g : List Sl} {σ : St} {H Z H' : Hp} {x : V} {d : D} (R : Rel P c g σ H Z) (y : YD P Z H x H' d) : ∃ Z', Same Z Z' ∧ Rel P c g σ H' Z' ∧ Dq P.K Z' x d := by
  rcases y with ⟨rfl, r⟩ | ⟨T, v, w, dv, dw, rfl, e2, rfl, rfl, r1, r2⟩
  · exact ⟨Z, Same.refl _, R, r⟩
  · have s := same_new (o := .tup [v, w]) (R.zn e2)
    exact ⟨_, s, R.newZ e2, .tup (SqT.of upd_same) (.cons (dpM s r1) (.cons (dpM s r2) .nil))⟩

/-! ## for, while -/
def endF (fl : Fl) (k : SM Fl) : SM Fl := match fl with
  | .nx => k
  | .ct => k
  | .bk => ret .nx
  | .rt e => ret (.rt e)
def forL (t : Tg) (b : SM Fl) : List D → SM Fl
  | [] => ret .nx
  | d :: ds => bnd (t.put d) fun _ => bnd b fun fl => endF fl (forL t b ds)
def forS (it : SM (List D)) (t : Tg) (b : SM Fl) : SM Fl := bnd it fun ds => forL t b ds
def whL (t : SM Bool) (b : SM Fl) : Nat → SM Fl
  | 0 => fun _ => .stuck
  | n + 1 => bnd t fun c => if c then bnd b fun fl => endF fl (whL t b n) else ret .nx
def whS (fu : List Sl → Nat) (t : SM Bool) (b : SM Fl) : SM Fl := fun g => whL t b (fu g) g
section
variable {X : Cx} {P : Pa} {W : WX} {e tg iter : Expr} {body : List Stmt} {pos : Pos}
theorem ms_for {it : SM (List D)} {t : Tg} {b : SM Fl} (hp : PassesOwn (model X.prog X.w) X.A X.env X.xe) (hc : X.calm = true) (hi : PI X tg iter (TIo P W it)) (hg : PG X tg (TGo P t)) (hb : PSs X body (TSo P W b))
    (hs : ∀ x, foldedSetIterable iter X.env x = pure x := by intro _; rfl) : PS X (.For tg iter body [] pos) (TSo P W (forS it t b)) := by
  refine psW (ps_for hp hc hi hg hb hs) fun Dd σ H ⟨c, g, Z, R, p⟩ => ?_
  refine ⟨c, g, Z, R, post_mono (post_bnd.mp p) (fun ds g1 q H1 Z1 J s1 R1 w => ?_) fun _ _ _ _ q => exS_K q⟩
  refine ⟨fun i m σ' H' => m = ds.length - i ∧ i ≤ ds.length ∧ ∃ g' Z', Same Z1 Z' ∧ Rel P c g' σ' H' Z' ∧ Post (fun fl g' => FlP P c Dd Z g' fl) (exS P c W) (forL t b (ds.drop i) g'),
    ⟨_, rfl, Nat.zero_le _, g1, Z1, Same.refl _, R1, q⟩, ?_⟩
  rintro i m σ' H' ⟨rfl, hi, g', Z', s', R', q'⟩
  have w' := w.mono s'
  by_cases hlt : i < ds.length
  · refine .inr ⟨w'.go i H' hlt R'.sub, fun σ2 H2 => i + 1 ≤ ds.length ∧ ∃ g' Z', Same Z1 Z' ∧ Rel P c g' σ2 H2 Z' ∧ Post (fun fl g' => FlP P c Dd Z g' fl) (exS P c W) (forL t b (ds.drop (i + 1)) g'),
      fun σ2 H2 ⟨h1, q2⟩ => ⟨ds.length - (i + 1), by omega, rfl, h1, q2⟩, fun x H2 y => ?_⟩
    obtain ⟨d, ed, yd⟩ := w'.yld i H' x H2 hlt R'.sub y
    obtain ⟨Z2, s2, R2, r2⟩ := yd_in R' yd
    have edr : ds.drop i = d :: ds.drop (i + 1) := by
      rw [List.drop_eq_getElem_cons hlt]
      rw [List.getElem?_eq_getElem hlt] at ed
      rw [Option.some.inj ed]
    rw [edr] at q'
    have q2 := post_bnd.mp q'
    refine ⟨c, g', Z2, d, R2, r2, put_post (ex := exS P c W) (post_mono q2 (fun _ g3 q3 vs R3 => ?_) fun _ _ _ _ q => q)⟩
    refine ⟨c, g3, Z2, R3, post_mono (post_bnd.mp q3) (fun fl g4 q4 => ?_) fun _ _ _ _ q => q⟩
    cases fl with
    | nx => exact fun σ5 H5 Z5 s5 R5 => ⟨hlt, g4, Z5, (s'.trans s2).trans s5, R5, q4⟩
    | ct => exact fun σ5 H5 Z5 s5 R5 => ⟨hlt, g4, Z5, (s'.trans s2).trans s5, R5, q4⟩
    | bk => exact fun σ5 H5 Z5 s5 R5 => q4 σ5 H5 Z5 (s1.trans ((s'.trans s2).trans s5)) R5
    | rt ev => exact fun v σ5 H5 Z5 s5 R5 r5 => q4 v σ5 H5 Z5 (s1.trans ((s'.trans s2).trans s5)) R5 r5
  · have e : i = ds.length := by omega
    subst e
    rw [List.drop_length] at q'
    exact .inl ⟨w'.stop H' R'.sub, q' σ' H' Z' (s1.trans s') R'⟩
theorem ms_while {fu : List Sl → Nat} {t : SM Bool} {b : SM Fl} (hp : PassesOwn (model X.prog X.w) X.A X.env X.xe) (hc : PT X e (TTo P W t)) (hb : PSs X body (TSo P W b)) : PS X (.While e body [] pos) (TSo P W (whS fu t b)) := by
  refine psW (ps_while hp hc hb) fun Dd σ H ⟨c, g, Z, R, p⟩ => ?_
  refine ⟨fun m σ' H' => ∃ g' Z', Same Z Z' ∧ Rel P c g' σ' H' Z' ∧ Post (fun fl g' => FlP P c Dd Z g' fl) (exS P c W) (whL t b m g'), ⟨fu g, g, Z, Same.refl _, R, p⟩, ?_⟩
  rintro m σ' H' ⟨g', Z', s', R', q'⟩
  cases m with
  | zero => exact q'.elim
  | succ m =>
    refine TTo.onS R' q' fun k g1 H1 Z1 s1 R1 p1 => ?_
    cases k with
    | false => exact p1 σ' H1 Z1 (s'.trans s1) R1
    | true =>
      refine ⟨fun σ2 H2 => ∃ g' Z', Same Z Z' ∧ Rel P c g' σ2 H2 Z' ∧ Post (fun fl g' => FlP P c Dd Z g' fl) (exS P c W) (whL t b m g'), fun σ2 H2 q2 => ⟨m, Nat.lt_succ_self _, q2⟩, ?_⟩
      refine ⟨c, g1, Z1, R1, post_mono (post_bnd.mp p1) (fun fl g4 q4 => ?_) fun _ _ _ _ q => q⟩
      cases fl with
      | nx => exact fun σ5 H5 Z5 s5 R5 => ⟨g4, Z5, (s'.trans s1).trans s5, R5, q4⟩
      | ct => exact fun σ5 H5 Z5 s5 R5 => ⟨g4, Z5, (s'.trans s1).trans s5, R5, q4⟩
      | bk => exact fun σ5 H5 Z5 s5 R5 => q4 σ5 H5 Z5 ((s'.trans s1).trans s5) R5
      | rt ev => exact fun v σ5 H5 Z5 s5 R5 r5 => q4 v σ5 H5 Z5 ((s'.trans s1).trans s5) R5 r5
end
end Mw
namespace Mw
open PySem L2 PySem.Spec PyProof.Rows

/-! ## try with several clauses, with and without a name -/
abbrev TSuite := Addr → Value → Option Addr → TS
/-- the ends of a suite whose name (slot i) is taken away behind it -/
def dropEnd (i : Nat) (D : Ends) : Ends := { nx := fun σ H => D.nx (σ.set i none) H, rt := D.rt, bk := fun σ H => D.bk (σ.set i none) H, ct := fun σ H => D.ct (σ.set i none) H }
def wCl (K : PySem.W.Frag) (Wout : WX) (D : Ends) : List (Value × Option Nat × TSuite) → WX
  | [] => Wout
  | (c, none, ts) :: r => fun cls d σ H => ∃ b, PySem.W.exmOne K cls c = some b ∧ (b = true → ∀ a, H a = none → ts a cls d D σ H) ∧ (b = false → wCl K Wout D r cls d σ H)
  | (c, some i, ts) :: r => fun cls d σ H => ∃ b, PySem.W.exmOne K cls c = some b ∧ (b = true → ∀ a, H a = none → ts a cls d (dropEnd i D) (σ.set i (some (.ref a))) H) ∧ (b = false → wCl K Wout D r cls d σ H)
def SuiteOk (X : Cx) (ss : List Stmt) (ts : TSuite) : Prop :=
  ∀ (a : Addr) (oe : Obj) (cls : Value) (d : Option Addr) (pn : List (Addr × Obj)), Zc cls d oe → (∃ vs, oe.data = .fields vs) → PSs (X.suite a ((a, oe) :: pn)) ss (ts a cls d)
inductive ClsOk (X : Cx) : List ExceptHandler → List (Value × Option Nat × TSuite) → Prop
  | nil : ClsOk X [] []
  | plain {x : Str} {c : Value} {ts : TSuite} {b₀ : Stmt} {ss : List Stmt} {p1 p2 : Pos} {hds : List ExceptHandler} {l : List (Value × Option Nat × TSuite)}
      (hc : Names X x c) (hs : SuiteOk X (b₀ :: ss) ts) (r : ClsOk X hds l) : ClsOk X (.ExceptHandler (some (.Name x p1)) none (b₀ :: ss) p2 :: hds) ((c, none, ts) :: l)
  | named {x n : Str} {i : Nat} {c : Value} {ts : TSuite} {b₀ : Stmt} {ss : List Stmt} {p1 p2 : Pos} {hds : List ExceptHandler} {l : List (Value × Option Nat × TSuite)}
      (hc : Names X x c) (hi : X.N[i]? = some n) (hl : X.env.kindOf n = some .local) (hs : SuiteOk X (b₀ :: ss) ts) (r : ClsOk X hds l) : ClsOk X (.ExceptHandler (some (.Name x p1)) (some n) (b₀ :: ss) p2 :: hds) ((c, some i, ts) :: l)
/-- an error of the body has come down in the frame that handles it -/
structure Landed (X : Cx) (pins : List (Addr × Obj)) (σ : L2.St) (H : Hp) (sI s : Shared) (B : Heap) (a : Addr) (cls : Value) (d : Option Addr) : Prop where
  inv : Inv X pins σ H sI
  nb : ∀ b o, sI.heap.get? b = some o → b ∉ frs X.stack → B.get? b = some o
  up : sI.heap.UpToSlots s.heap
  fly : HandSPX.FlyingZ B (X.env :: X.outer) a (Zc cls d) s.heap
  na : H a = none
  os : s.os = sI.os
  ag : AllBare s.gens
section
variable {X : Cx} {pins : List (Addr × Obj)} {σ : L2.St} {H : Hp} {sI s : Shared} {B : Heap} {a : Addr} {cls : Value} {d : Option Addr}
theorem Landed.now (L : Landed X pins σ H sI s B a cls d) : Inv X pins σ H s := L.inv.landed L.nb L.fly.1 L.up L.os L.ag
theorem Landed.held (L : Landed X pins σ H sI s B a cls d) (hf : X.env.frame = some X.env.locals) :
    ∃ oe, s.heap.get? a = some oe ∧ Zc cls d oe ∧ (∃ vs, oe.data = .fields vs) ∧ Inv (X.suite a ((a, oe) :: (X.pn ++ pins))) [] σ H s := by
  obtain ⟨oe, vs, he, hz, hd⟩ := L.fly.there
  have far : a ∉ frs (X.env :: X.outer) := fun hm => by
    obtain ⟨_, ob, e, nf⟩ := L.fly.2.2.1.mem hm
    rw [he] at e; cases e
    exact nf _ hd
  have n1 : a ≠ X.env.locals := fun z => far (List.mem_filterMap.mpr ⟨X.env, List.mem_cons_self, by rw [hf, z]⟩)
  have n2 : a ∉ X.fs := fun hm => by
    obtain ⟨e, h1, h2⟩ := List.mem_filterMap.mp hm
    exact far (List.mem_filterMap.mpr ⟨e, List.mem_cons_of_mem _ h1, h2⟩)
  exact ⟨oe, he, hz, ⟨vs, hd⟩, L.now.suite he hd L.na n1 n2⟩
theorem Landed.again (L : Landed X pins σ H sI s B a cls d) {h' : Heap} (fl : HandSPX.FlyingZ B (X.env :: X.outer) a (Zc cls d) h') (u : s.heap.UpToSlots h') : Landed X pins σ H sI { s with heap := h' } B a cls d :=
  ⟨L.inv, L.nb, L.up.trans u, fl, L.na, L.os, L.ag⟩
/-- no clause is left: it flies on -/
theorem Landed.on (L : Landed X pins σ H sI s B a cls d) (hs : X.stack = X.env :: X.outer) (hf : X.env.frame = some X.env.locals) {Wout : WX} (tk : Takes X Wout) {D : Ends} (w : Wout cls d σ H) :
    wpAny (model X.prog X.w) X.A (handleBy (.ref a) X.env []) (SP X pins D) X.xe s := by
  refine wpAny_handleBy_nil ?_
  obtain ⟨_, _, _, oe, vs, T, oT, ts', he, hz, hd, h1, hr⟩ := id L.fly
  have fin : wpAny (model X.prog X.w) X.A (setFlight (.ref a) X.env.frame) (fun _ s4 => wpAny (model X.prog X.w) X.A (throw (.ref a) : Sem Flow) (SP X pins D) X.xe s4) X.xe s := by
    rw [hf]
    refine HandSPX.setFlight_upZ L.fly fun h4 hh up4 => wpAny_throw (tk _ _ ?_)
    exact ⟨a, B, sI, pins, σ, H, cls, d, rfl, L.inv, L.nb, L.up.trans up4, .inr (.inr (by rw [hs]; exact hh)), L.na, L.os, L.ag, w⟩
  unfold PySem.passOn
  refine wpAny_bind (wpAny_field he hd h1 ?_)
  rw [if_neg (show ¬ ((Value.ref T == Value.none) = true) from by simp)]
  first
    | exact wpAny_bind fin
    | exact wpAny_bind (wpAny_pure (wpAny_bind fin))
/-- the clause's name is looked up, the error held against it -/
theorem Landed.ask (L : Landed X pins σ H sI s B a cls d) (hf : X.env.frame = some X.env.locals) {x : Str} {c : Value} {p1 : Pos} {b : Bool} (hc : Names X x c) (hb : PySem.W.exmOne X.K cls c = some b) {Q : Bool → Shared → Prop} {E : Value → Shared → Prop} (q : Q b s) :
    wpAny (model X.prog X.w) (X.A.mark (some (.ref a))) (eval (.Name x p1) X.env) (fun v s' => wpAny (model X.prog X.w) (X.A.mark (some (.ref a))) (excMatches (.ref a) v) Q E s') E s := by
  obtain ⟨oe, he, hz, _, S⟩ := L.held hf
  have LT : PySem.W.Looks (model X.prog X.w) s.heap (typeOf (.ref a)) cls := fun A Q E s k q => wpAny_typeOf_ref (k _ _ he) (by rw [hz.1]; exact q)
  have LM := PySem.W.exm_one (M := model X.prog X.w) L.now.kIn LT hb
  obtain ⟨hg, hdb, hm | ⟨hm, hv, hn⟩⟩ := hc
  · exact ld_glob (X := X.suite a ((a, oe) :: (X.pn ++ pins))) S hg hm (LM.here q) hdb
  · exact ld_blt (X := X.suite a ((a, oe) :: (X.pn ++ pins))) S hg hm hv (LM.here q) hn hdb
end
theorem clauses_ok {X : Cx} (hs : X.stack = X.env :: X.outer) (hf : X.env.frame = some X.env.locals) (hN : X.N.Nodup) {Wout : WX} (tk : Takes X Wout) {D : Ends} {hds : List ExceptHandler} {l : List (Value × Option Nat × TSuite)} (hk : ClsOk X hds l) :
    ∀ {pins : List (Addr × Obj)} {σ : L2.St} {H : Hp} {sI s : Shared} {B : Heap} {a : Addr} {cls : Value} {d : Option Addr}, Landed X pins σ H sI s B a cls d → wCl X.K Wout D l cls d σ H →
      wpAny (model X.prog X.w) X.A (handleBy (.ref a) X.env hds) (SP X pins D) X.xe s := by
  induction hk with
  | nil => exact fun L w => L.on hs hf tk w
  | plain hc hsu r ih =>
    intro pins σ H sI s B a cls d L w
    obtain ⟨b, hb, yes, no⟩ := w
    refine wpAny_handleBy_cons (codeAny_handlers_test (L.ask hf hc hb ?_)) (fun q => nomatch q)
    cases b with
    | false => exact ih L (no rfl)
    | true =>
      refine codeAny_handlers_suite (HandSPX.lands_againZ L.fly fun h4 fl4 up4 => ?_)
      obtain ⟨oe, he, hz, hd, S⟩ := (L.again fl4 up4).held hf
      refine wpAny_mono ((hsu a oe cls d _ hz hd).run [] _ _ H _ S (yes rfl a L.na)) (fun f s6 q => ?_) fun _ _ z => z.elim
      cases f with
      | next => obtain ⟨σ6, H6, S6, q6⟩ := q; exact ⟨σ6, H6, S6.unsuite L.inv.ok, q6⟩
      | brk => obtain ⟨σ6, H6, S6, q6⟩ := q; exact ⟨σ6, H6, S6.unsuite L.inv.ok, q6⟩
      | cont => obtain ⟨σ6, H6, S6, q6⟩ := q; exact ⟨σ6, H6, S6.unsuite L.inv.ok, q6⟩
      | ret u => obtain ⟨v6, σ6, H6, S6, r6, q6⟩ := q; exact ⟨v6, σ6, H6, S6.unsuite L.inv.ok, r6, q6⟩
  | named hc hi hl hsu r ih =>
    intro pins σ H sI s B a cls d L w
    obtain ⟨b, hb, yes, no⟩ := w
    refine wpAny_handleBy_cons (codeAny_handlers_test (L.ask hf hc hb ?_)) (fun q => nomatch q)
    cases b with
    | false => exact ih L (no rfl)
    | true =>
      refine codeAny_handlers_suite_as (HandSPX.lands_againZ L.fly fun h4 fl4 up4 => ?_)
      obtain ⟨oe, he, hz, hd, S⟩ := (L.again fl4 up4).held hf
      refine store_ok (X := X.suite a ((a, oe) :: (X.pn ++ pins))) (v := .ref a) S hN hi (.inl hl) rfl (fun s5 S5 => ?_) (.inr hl)
      refine wpAny_mono ((hsu a oe cls d _ hz hd).run [] s5 _ H _ S5 (yes rfl a L.na)) (fun f s6 q => ?_) fun _ _ z => z.elim
      cases f with
      | next => obtain ⟨σ6, H6, S6, q6⟩ := q; exact gone_ok (S6.unsuite L.inv.ok) hN hi hl fun s7 J7 => ⟨_, H6, J7, q6⟩
      | brk => obtain ⟨σ6, H6, S6, q6⟩ := q; exact gone_ok (S6.unsuite L.inv.ok) hN hi hl fun s7 J7 => ⟨_, H6, J7, q6⟩
      | cont => obtain ⟨σ6, H6, S6, q6⟩ := q; exact gone_ok (S6.unsuite L.inv.ok) hN hi hl fun s7 J7 => ⟨_, H6, J7, q6⟩
      | ret u => obtain ⟨v6, σ6, H6, S6, r6, q6⟩ := q; exact gone_ok (S6.unsuite L.inv.ok) hN hi hl fun s7 J7 => ⟨v6, _, H6, J7, r6, q6⟩
theorem ps_try_cl {X : Cx} {body : List Stmt} {h₀ : ExceptHandler} {hds : List ExceptHandler} {l : List (Value × Option Nat × TSuite)} {pos : Pos} {tb : WX → TS} {Wout : WX}
    (hs : X.stack = X.env :: X.outer) (hf : X.env.frame = some X.env.locals) (hN : X.N.Nodup) (tk : Takes X Wout)
    (hb : ∀ (W : WX) (pn : List (Addr × Obj)) (xe : Value → Shared → Prop), Takes (X.tr pn xe) W → PassesOwn (model X.prog X.w) X.A X.env xe → PSs (X.tr pn xe) body (tb W))
    (hk : ClsOk X (h₀ :: hds) l) : PS X (.Try body (h₀ :: hds) [] [] pos) (fun D σ H => tb (wCl X.K Wout D l) D σ H) := by
  refine ⟨fun pins s σ H D I h => wpAny_Try_except ?_⟩
  have fr : X.A.frames = some (X.env :: X.outer) := by rw [I.ok.frames, hs]
  refine wpAny_mono ((hb (wCl X.K Wout D l) (X.pn ++ pins) _ (fun u s' xx => ?_) PassesOwn.looking).run [] s σ H D (I.toTry _) h) (fun f s1 q => ?_) fun _ _ q => q
  · obtain ⟨a, B, sI, pins', σ', H', cls, d, rfl, J, nb, up, sky, na, os, ag, w⟩ := xx
    refine Sky.land Zc.steady fr hf (by rw [← hs]; exact sky) fun h3 fl3 up3 => ?_
    exact clauses_ok hs hf hN tk hk ⟨J.ofTry I.ok, nb, up.trans up3, fl3, na, os, ag⟩ w
  · cases f with
    | next => obtain ⟨σ', H', J, q⟩ := q; exact wpAny_execs_nil ⟨σ', H', J.ofTry I.ok, q⟩
    | brk => obtain ⟨σ', H', J, q⟩ := q; exact ⟨σ', H', J.ofTry I.ok, q⟩
    | cont => obtain ⟨σ', H', J, q⟩ := q; exact ⟨σ', H', J.ofTry I.ok, q⟩
    | ret u => obtain ⟨v, σ', H', J, r, q⟩ := q; exact ⟨v, σ', H', J.ofTry I.ok, r, q⟩
end Mw
namespace Mw
open PySem L2

/-! ## defs: what they promise, how they are called -/
inductive FR where
  | ok (ev : EV) (b : Option (List D))
  | exn (c : Nat) (f : Str) (p : D) (b : Option (List D))
  | stuck
abbrev Fd := List Sl → FR
def borOf (g : List Sl) : Option (List D) := match g with
  | .bor ds :: _ => some ds
  | _ => none
def chk (as g : List Sl) (r : FR) : FR := match borOf as, borOf g with
  | some _, none => .stuck
  | _, _ => r
def flEv : Fl → Option EV
  | .nx => some (.fro .none)
  | .rt (.fro d) => some (.fro d)
  | .rt (.own ds) => some (.own ds)
  | _ => none
def fdD (m : Nat) (body : SM Fl) : Fd := fun as => match body (as ++ List.replicate m .un) with
  | .ok (fl, g) => (match flEv fl with
    | some ev => chk as g (.ok ev (borOf g))
    | none => .stuck)
  | .exn k f p g => chk as g (.exn k f p (borOf g))
  | .stuck => .stuck
inductive FroL (K : PySem.W.Frag) (Z : Hp) : List V → List Sl → Prop
  | nil : FroL K Z [] []
  | fro {v : V} {vs : List V} {d : D} {as : List Sl} (h : Dq K Z v d) (r : FroL K Z vs as) : FroL K Z (v :: vs) (.fro d :: as)
  | scr {a : Addr} {vs : List V} {ns : List Int} {as : List Sl} (h : SqL K Z a (ns.map V.int)) (r : FroL K Z vs as) : FroL K Z (.ref a :: vs) (.scr ns :: as)
inductive ArgsOk (K : PySem.W.Frag) (H Z : Hp) : Option Addr → List V → List Sl → Prop
  | none {vs : List V} {as : List Sl} (h : FroL K Z vs as) : ArgsOk K H Z none vs as
  | some {a : Addr} {ws : List V} {ds : List D} {vs : List V} {as : List Sl} (h1 : H a = some (.lst ws)) (h2 : Z a = none) (r : DqAll K Z ws ds) (h : FroL K Z vs as) : ArgsOk K H Z (some a) (.ref a :: vs) (.bor ds :: as)
/-- what a def leaves: the frozen part is grown by new objects, all that stood stands but the borrowed list -/
structure Left (K : PySem.W.Frag) (H Z : Hp) (B : Option Addr) (b : Option (List D)) (H' Z' : Hp) : Prop where
  sz : Same Z Z'
  sub : Same Z' H'
  zf : ∀ a x, H a = some x → Z' a = Z a
  fr : ∀ a x, H a = some x → B ≠ some a → H' a = some x
  bo : ∀ a, B = some a → ∃ ds ws, b = some ds ∧ H' a = some (.lst ws) ∧ DqAll K Z' ws ds
def ResV (K : PySem.W.Frag) (H H' Z' : Hp) (v : V) : EV → Prop
  | .fro d => Dq K Z' v d
  | .own ds => ∃ a vs, v = .ref a ∧ H' a = some (.lst vs) ∧ Z' a = none ∧ H a = none ∧ DqAll K Z' vs ds
  | .var _ => False
def SpD (K : PySem.W.Frag) (cA : Nat → Addr) (n : Nat) (f : Fd) : Sp := fun vs H Q E => ∃ as Z B, as.length = n ∧ Same Z H ∧ ArgsOk K H Z B vs as ∧
  match f as with
  | .ok ev b => ∀ v H' Z', Left K H Z B b H' Z' → ResV K H H' Z' v ev → Q v H'
  | .exn k x p b => ∀ dd v H' Z', Left K H Z B b H' Z' → Z' dd = some (.xd [(x, v)]) → Dq K Z' v p → E (.ref (cA k)) (some dd) H'
  | .stuck => False
theorem froL_len {K : PySem.W.Frag} {Z : Hp} : ∀ {vs : List V} {as : List Sl}, FroL K Z vs as → vs.length = as.length
  | _, _, .nil => rfl
  | _, _, .fro _ r => by rw [List.length_cons, List.length_cons, froL_len r]
  | _, _, .scr _ r => by rw [List.length_cons, List.length_cons, froL_len r]
theorem argsOk_len {K : PySem.W.Frag} {H Z : Hp} {B : Option Addr} {vs : List V} {as : List Sl} (h : ArgsOk K H Z B vs as) : vs.length = as.length := by
  cases h with
  | none h => exact froL_len h
  | some _ _ _ h => rw [List.length_cons, List.length_cons, froL_len h]
theorem froL_sl {P : Pa} {c : Ctx} {H Z : Hp} : ∀ {vs : List V} {as : List Sl}, FroL P.K Z vs as → ∀ (i : Nat) (s : Sl), as[i]? = some s → SlOk P c H Z ((vs.map some)[i]?) s ∧ isO (some s) = false ∧ ∀ ds, s ≠ .bor ds
  | _, _, .nil, i, s, e => by simp at e
  | _, _, .fro h r, 0, s, e => by cases e; exact ⟨⟨_, rfl, h⟩, rfl, fun _ z => nomatch z⟩
  | _, _, .scr h r, 0, s, e => by cases e; exact ⟨⟨_, rfl, h⟩, rfl, fun _ z => nomatch z⟩
  | _, _, .fro h r, i + 1, s, e => froL_sl r i s (by simpa using e)
  | _, _, .scr h r, i + 1, s, e => froL_sl r i s (by simpa using e)
theorem repl_get {α : Type} {n i : Nat} {x y : α} (h : (List.replicate n x)[i]? = some y) : y = x := by
  have := List.mem_of_getElem? h
  exact (List.mem_replicate.mp this).2
/-- the entry of a def -/
theorem rel_start {P : Pa} {H Z : Hp} {B : Option Addr} {vs : List V} {as : List Sl} {N : List Str} (s : Same Z H) (h : ArgsOk P.K H Z B vs as) (hN : vs.length ≤ N.length) :
    Rel P ⟨H, Z, B⟩ (as ++ List.replicate (N.length - vs.length) .un) (L2.start N vs) H Z := by
  have hl := argsOk_len h
  have key : ∀ (i : Nat) (t : Sl), (as ++ List.replicate (N.length - vs.length) .un)[i]? = some t → (t = .un ∨ as[i]? = some t) := fun i t e => by
    by_cases hi : i < as.length
    · rw [List.getElem?_append_left hi] at e; exact .inr e
    · rw [List.getElem?_append_right (by omega)] at e; exact .inl (repl_get e)
  have stt : ∀ i : Nat, i < as.length → (L2.start N vs)[i]? = (vs.map some)[i]? := fun i hi => by
    unfold L2.start
    rw [List.getElem?_append_left (by rw [List.length_map]; omega)]
  have main : (∀ (i : Nat) (t : Sl), as[i]? = some t → SlOk P ⟨H, Z, B⟩ H Z ((vs.map some)[i]?) t ∧ isO (some t) = false ∧ ∀ ds, t = .bor ds → i = 0) ∧ (∀ a, B = some a → ∃ ws, H a = some (.lst ws)) := by
    cases h with
    | none h => exact ⟨fun i t e => by obtain ⟨h1, h2, h3⟩ := froL_sl (P := P) (c := ⟨H, Z, none⟩) (H := H) h i t e; exact ⟨h1, h2, fun ds z => absurd z (h3 ds)⟩, fun a z => nomatch z⟩
    | @some a ws ds vs as h1 h2 r h =>
      refine ⟨fun i t e => ?_, fun b z => by cases z; exact ⟨ws, h1⟩⟩
      cases i with
      | zero => cases e; exact ⟨⟨a, ws, rfl, h1, h2, rfl, r⟩, rfl, fun _ _ => rfl⟩
      | succ i => obtain ⟨h1, h2, h3⟩ := froL_sl (P := P) (c := ⟨H, Z, some a⟩) (H := H) h i t (by simpa using e); exact ⟨by simpa using h1, h2, fun ds z => absurd z (h3 ds)⟩
  refine ⟨s, fun _ _ _ => rfl, fun _ _ e _ => e, fun a e => ?_, ?_, fun i t e => ?_, fun i j a _ hi _ _ => ?_, fun i ds e => ?_⟩
  · obtain ⟨ws, e2⟩ := main.2 a e
    exact ⟨⟨ws, e2⟩, _, e2⟩
  · unfold L2.start
    rw [List.length_append, List.length_append, List.length_map, List.length_replicate, List.length_replicate, hl]
  · rcases key i t e with rfl | e2
    · trivial
    · rw [stt i (List.getElem?_eq_some_iff.mp e2).1]; exact (main.1 i t e2).1
  · exfalso
    cases e : (as ++ List.replicate (N.length - vs.length) .un)[i]? with
    | none => rw [e] at hi; cases hi
    | some t =>
      rw [e] at hi
      rcases key i t e with rfl | e2
      · cases hi
      · rw [(main.1 i t e2).2.1] at hi; cases hi
  · rcases key i _ e with z | e2
    · cases z
    · exact (main.1 i _ e2).2.2 ds rfl
theorem left_of {P : Pa} {H0 Z0 : Hp} {B : Option Addr} {g : List Sl} {σ : St} {H Z : Hp} (R : Rel P ⟨H0, Z0, B⟩ g σ H Z) (sz : Same Z0 Z) (hb : ∀ a, B = some a → ∃ ds r, g = .bor ds :: r) : Left P.K H0 Z0 B (borOf g) H Z := by
  refine ⟨sz, R.sub, R.zf, fun a x e hn => R.fr a x e hn, fun a e => ?_⟩
  obtain ⟨ds, r, rfl⟩ := hb a e
  obtain ⟨a', vs, e1, h1, h2, h3, rr⟩ := R.sl 0 (.bor ds) rfl
  have h3 : B = some a' := h3
  rw [e] at h3; cases h3
  exact ⟨ds, vs, rfl, h1, rr⟩
theorem chk_ok {as g : List Sl} {r : FR} (h : chk as g r ≠ .stuck) : chk as g r = r ∧ ((borOf as).isSome = true → ∃ ds t, g = .bor ds :: t) := by
  unfold chk at h ⊢
  cases e1 : borOf as with
  | none => exact ⟨rfl, fun z => nomatch z⟩
  | some x =>
    cases e2 : borOf g with
    | none => rw [e1, e2] at h; exact (h rfl).elim
    | some y =>
      refine ⟨rfl, fun _ => ?_⟩
      cases g with
      | nil => cases e2
      | cons s t =>
        cases s with
        | bor ds => exact ⟨ds, t, rfl⟩
        | un => cases e2
        | fro _ => cases e2
        | own _ => cases e2
        | exc _ _ _ => cases e2
        | scr _ => cases e2
theorem args_bor {K : PySem.W.Frag} {H Z : Hp} {a : Addr} {vs : List V} {as : List Sl} (h : ArgsOk K H Z (some a) vs as) : (borOf as).isSome = true := by
  cases h with
  | some _ _ _ _ => rfl
/-- what is wanted of a def's answer -/
def FRP (K : PySem.W.Frag) (cA : Nat → Addr) (H Z : Hp) (B : Option Addr) (Q : VK) (E : XK) : FR → Prop
  | .ok ev b => ∀ v H' Z', Left K H Z B b H' Z' → ResV K H H' Z' v ev → Q v H'
  | .exn k x p b => ∀ dd v H' Z', Left K H Z B b H' Z' → Z' dd = some (.xd [(x, v)]) → Dq K Z' v p → E (.ref (cA k)) (some dd) H'
  | .stuck => False
theorem spD_frp {K : PySem.W.Frag} {cA : Nat → Addr} {n : Nat} {f : Fd} {vs : List V} {H : Hp} {Q : VK} {E : XK} (h : SpD K cA n f vs H Q E) : ∃ as Z B, as.length = n ∧ Same Z H ∧ ArgsOk K H Z B vs as ∧ FRP K cA H Z B Q E (f as) := by
  obtain ⟨as, Z, B, h1, h2, h3, h4⟩ := h
  refine ⟨as, Z, B, h1, h2, h3, ?_⟩
  cases e : f as with
  | ok ev b => rw [e] at h4; exact h4
  | exn k x p b => rw [e] at h4; exact h4
  | stuck => rw [e] at h4; exact h4
theorem frp_spD {K : PySem.W.Frag} {cA : Nat → Addr} {n : Nat} {f : Fd} {vs : List V} {H : Hp} {Q : VK} {E : XK} {as : List Sl} {Z : Hp} {B : Option Addr} (h1 : as.length = n) (h2 : Same Z H) (h3 : ArgsOk K H Z B vs as) (h : FRP K cA H Z B Q E (f as)) : SpD K cA n f vs H Q E := by
  refine ⟨as, Z, B, h1, h2, h3, ?_⟩
  cases e : f as with
  | ok ev b => rw [e] at h; exact h
  | exn k x p b => rw [e] at h; exact h
  | stuck => rw [e] at h; exact h
/-- a body's reading gives the promise -/
theorem fn_ts {P : Pa} {N : List Str} {n : Nat} {body : SM Fl} {vs : List V} {H : Hp} {Q : VK} {E : XK} (hn : n ≤ N.length) (h : SpD P.K P.cA n (fdD (N.length - n) body) vs H Q E) :
    TSo P (fun cls d _ H => E cls d H) body { nx := fun _ H' => Q .non H', rt := Q } (L2.start N vs) H := by
  obtain ⟨as, Z, B, h1, h2, h3, h4⟩ := spD_frp h
  have hl := argsOk_len h3
  have R := rel_start (P := P) (N := N) h2 h3 (by omega)
  rw [show N.length - vs.length = N.length - n by omega] at R
  refine ⟨_, _, Z, R, ?_⟩
  unfold fdD at h4
  have hb : ∀ {g : List Sl} {r : FR}, FRP P.K P.cA H Z B Q E (chk as g r) → chk as g r = r ∧ ∀ a, B = some a → ∃ ds t, g = .bor ds :: t := fun {g r} q => by
    obtain ⟨e1, e2⟩ := chk_ok (as := as) (g := g) (r := r) fun z => by rw [z] at q; exact q
    exact ⟨e1, fun a ea => by subst ea; exact e2 (args_bor h3)⟩
  cases e : body (as ++ List.replicate (N.length - n) .un) with
  | stuck => rw [e] at h4; exact h4
  | exn k f p g =>
    rw [e] at h4
    have h4 : FRP P.K P.cA H Z B Q E (chk as g (.exn k f p (borOf g))) := h4
    obtain ⟨ec, hb'⟩ := hb h4
    rw [ec] at h4
    intro dd v σ' H' Z' ez r R'
    have s' : Same Z Z' := fun b x e2 => (R'.zf b x (h2 b x e2)).trans e2
    exact h4 dd v H' Z' (left_of R' s' hb') ez r
  | ok x =>
    obtain ⟨fl, g⟩ := x
    rw [e] at h4
    cases fl with
    | nx =>
      have h4 : FRP P.K P.cA H Z B Q E (chk as g (.ok (.fro .none) (borOf g))) := h4
      obtain ⟨ec, hb'⟩ := hb h4
      rw [ec] at h4
      exact fun σ' H' Z' s' R' => h4 .non H' Z' (left_of R' s' hb') .non
    | bk => exact h4.elim
    | ct => exact h4.elim
    | rt ev =>
      cases ev with
      | var i => exact h4.elim
      | fro d =>
        have h4 : FRP P.K P.cA H Z B Q E (chk as g (.ok (.fro d) (borOf g))) := h4
        obtain ⟨ec, hb'⟩ := hb h4
        rw [ec] at h4
        exact fun v σ' H' Z' s' R' vr => h4 v H' Z' (left_of R' s' hb') vr
      | own ds =>
        have h4 : FRP P.K P.cA H Z B Q E (chk as g (.ok (.own ds) (borOf g))) := h4
        obtain ⟨ec, hb'⟩ := hb h4
        rw [ec] at h4
        exact fun v σ' H' Z' s' R' ⟨a, ws, e1, e2, e3, e4, r, _⟩ => h4 v H' Z' (left_of R' s' hb') ⟨a, ws, e1, e2, e3, e4, r⟩
theorem fn_ok {P : Program} {w : World} {K : PySem.W.Frag} {mg : Str → Option Value} {base : Heap} {cA : Nat → Addr} {x qual : Str} {st : Stmt} {f : Addr} {fd : FuncData} {N ps : List Str} {k : Nat} {body : SM Fl} (F : L2.Fun K x qual st f fd) (S : FnScope N ps (defScope st)) (hn : ps.length ≤ N.length)
    (hb : ∀ (cdv : Value) (A : Around) (outer : List Env) (s : Shared) (H : Hp) (E : XK) (X : Cx), X = cxOf (L2.CX P w) P w K mg base N qual (defScope st) f cdv A outer s H E → Room k X.A →
      Takes X (fun cls d _ H => E cls d H) → PassesOwn (model X.prog X.w) X.A X.env X.xe → PSs (cxOf (L2.CX P w) P w K mg base N qual (defScope st) f cdv A outer s H E) (defBody st) (TSo ⟨K, cA, none⟩ (fun cls d _ H => E cls d H) body)) :
    FnOk P w K mg base (L2.CX P w) (k + 1) f fd ps (SpD K cA ps.length (fdD (N.length - ps.length) body)) := by
  refine F.okX S (fun vs H Q E h => ?_) (fun cdv A outer s H vs Q E hr h => ⟨TSo ⟨K, cA, none⟩ (fun cls d _ H => E cls d H) body, ?_, fn_ts (P := ⟨K, cA, none⟩) hn h⟩)
  · obtain ⟨as, Z, B, h1, h2, h3, h4⟩ := h
    rw [argsOk_len h3, h1]
  · exact hb cdv A outer s H E _ rfl hr (takes_of rfl rfl rfl rfl) (passes_of rfl)

/-! ## calls -/
def escA : EV → SM Sl
  | .fro d => ret (.fro d)
  | .own ds => ret (.fro (.list ds))
  | .var i => fun g => match g[i]? with
    | some (.fro d) => .ok (.fro d, g)
    | some (.own ds) => .ok (.fro (.list ds), g.set i (.fro (.list ds)))
    | some (.scr ns) => .ok (.scr ns, g)
    | _ => .stuck
def escAL : List EV → SM (List Sl)
  | [] => ret []
  | e :: es => bnd (escA e) fun d => bnd (escAL es) fun ds => ret (d :: ds)
def ansE (r : FR) : SM EV := fun g => match r with
  | .ok ev _ => .ok (ev, g)
  | .exn k f p _ => .exn k f p g
  | .stuck => .stuck
def callE (f : Fd) (da : SM (List EV)) : SM EV := bnd da fun evs => bnd (escAL evs) fun as => ansE (f as)
end Mw
namespace Mw
open PySem L2

section
variable {P : Pa} {c : Ctx} {g : List Sl} {σ : St} {H Z H' Z' : Hp}
theorem Rel.there (R : Rel P c g σ H Z) {b : Addr} {x : HO} (e : c.H0 b = some x) : ∃ y, H b = some y := by
  by_cases hb : c.B = some b
  · obtain ⟨⟨vs, e1⟩, _⟩ := R.bo b hb
    exact ⟨_, e1⟩
  · exact ⟨x, R.fr b x e hb⟩
theorem Rel.left {b : Option (List D)} (R : Rel P c g σ H Z) (L : Left P.K H Z none b H' Z') : Rel P c g σ H' Z' where
  sub := L.sub
  zf := fun a x e => by obtain ⟨y, e1⟩ := R.there e; rw [L.zf a y e1]; exact R.zf a x e
  fr := fun a x e hb => L.fr a x (R.fr a x e hb) (fun z => nomatch z)
  bo := fun a e => by obtain ⟨⟨vs, e1⟩, h0⟩ := R.bo a e; exact ⟨⟨vs, L.fr a _ e1 (fun z => nomatch z)⟩, h0⟩
  len := R.len
  sl := fun i s e => (R.sl i s e).mono L.sz fun a vs _ h1 h2 => ⟨L.fr a _ h1 (fun z => nomatch z), (L.zf a _ h1).trans h2⟩
  ds := R.ds
  b0 := R.b0
theorem Rel.leftB {b : Option (List D)} {i : Nat} {ds ds' : List D} {a : Addr} {s : List D → Sl} (hs : s = Sl.own ∨ s = Sl.bor) (R : Rel P c g σ H Z) (hi : g[i]? = some (s ds)) (ha : σ[i]? = some (some (.ref a)))
    (L : Left P.K H Z (some a) b H' Z') (eb : b = some ds') : Rel P c (g.set i (s ds')) σ H' Z' := by
  obtain ⟨es, ws', e1, h1', r'⟩ := L.bo a rfl
  rw [eb] at e1; cases e1
  have il : i < g.length := (List.getElem?_eq_some_iff.mp hi).1
  -- the list's own slot
  have key : Z a = none ∧ (∃ vs, H a = some (.lst vs)) ∧ ((s = Sl.own ∧ c.H0 a = none) ∨ (s = Sl.bor ∧ c.B = some a)) := by
    rcases hs with rfl | rfl
    · obtain ⟨a', vs, e2, k1, k2, k3, _⟩ := R.sl i _ hi
      rw [ha] at e2; cases e2
      exact ⟨k2, ⟨vs, k1⟩, .inl ⟨rfl, k3⟩⟩
    · obtain ⟨a', vs, e2, k1, k2, k3, _⟩ := R.sl i _ hi
      rw [ha] at e2; cases e2
      exact ⟨k2, ⟨vs, k1⟩, .inr ⟨rfl, k3⟩⟩
  obtain ⟨za, ⟨va, hva⟩, own⟩ := key
  have za' : Z' a = none := (L.zf a _ hva).trans za
  refine ⟨L.sub, fun b x e => ?_, fun b x e hb => ?_, fun b e => ?_, by simpa using R.len, fun j t e => ?_, fun j k b hjk hj hk e => ?_, fun j es e => ?_⟩
  · obtain ⟨y, e1⟩ := R.there e; rw [L.zf b y e1]; exact R.zf b x e
  · refine L.fr b x (R.fr b x e hb) fun z => ?_
    cases z
    rcases own with ⟨_, h0⟩ | ⟨_, h0⟩
    · rw [h0] at e; cases e
    · exact hb h0
  · obtain ⟨⟨vs, e1⟩, h0⟩ := R.bo b e
    by_cases hba : b = a
    · subst hba; exact ⟨⟨ws', h1'⟩, h0⟩
    · exact ⟨⟨vs, L.fr b _ e1 fun z => hba (Option.some.inj z).symm⟩, h0⟩
  · rcases getE_set e with ⟨rfl, rfl⟩ | ⟨hne, e2⟩
    · rcases own with ⟨rfl, h0⟩ | ⟨rfl, h0⟩
      · exact ⟨a, ws', ha, h1', za', h0, r'⟩
      · exact ⟨a, ws', ha, h1', za', h0, r'⟩
    · have q := R.sl j t e2
      cases t with
      | un => trivial
      | fro d => obtain ⟨v, e3, r⟩ := q; exact ⟨v, e3, dpM L.sz r⟩
      | exc k f p' => obtain ⟨b, dd, v, e4, e5, e6, r⟩ := q; exact ⟨b, dd, v, e4, e5, L.sz _ _ e6, dpM L.sz r⟩
      | scr ns => obtain ⟨b, e4, r⟩ := q; exact ⟨b, e4, L.sz.seq r⟩
      | own es =>
        obtain ⟨b, ws, e3, h4, h5, h6, r''⟩ := q
        have ne : b ≠ a := fun z => by
          rcases own with ⟨rfl, _⟩ | ⟨_, h0⟩
          · exact R.ds i j a (Ne.symm hne) (by rw [hi]; rfl) (by rw [e2]; rfl) ha (z ▸ e3)
          · obtain ⟨_, x, e7⟩ := R.bo a h0
            rw [z, e7] at h6; cases h6
        exact ⟨b, ws, e3, L.fr b _ h4 (fun z => ne (Option.some.inj z).symm), (L.zf b _ h4).trans h5, h6, dpAM L.sz r''⟩
      | bor es =>
        obtain ⟨b, ws, e3, h4, h5, h6, r''⟩ := q
        have ne : b ≠ a := fun z => by
          rcases own with ⟨_, h0⟩ | ⟨rfl, h0⟩
          · obtain ⟨_, x, e7⟩ := R.bo b h6
            rw [z, h0] at e7; cases e7
          · exact hne ((R.b0 j _ e2).trans (R.b0 i _ hi).symm)
        exact ⟨b, ws, e3, L.fr b _ h4 (fun z => ne (Option.some.inj z).symm), (L.zf b _ h4).trans h5, h6, dpAM L.sz r''⟩
  · have f : ∀ m : Nat, isO (g.set i (s ds'))[m]? = true → isO g[m]? = true := fun m q => by
      cases e : (g.set i (s ds'))[m]? with
      | none => rw [e] at q; cases q
      | some y =>
        rw [e] at q
        rcases getE_set e with ⟨rfl, rfl⟩ | ⟨_, e2⟩
        · rcases own with ⟨rfl, _⟩ | ⟨rfl, _⟩
          · rw [hi]; rfl
          · cases q
        · rw [e2]; exact q
    exact R.ds j k b hjk (f j hj) (f k hk) e
  · rcases getE_set e with ⟨rfl, e1⟩ | ⟨_, e2⟩
    · rcases own with ⟨rfl, _⟩ | ⟨rfl, _⟩
      · cases e1
      · exact R.b0 _ _ hi
    · exact R.b0 j _ e2

/-! ## arguments that leave; the answer that comes -/
theorem escA_ok {v : V} {ev : EV} {ok : Sl → List Sl → Prop} {ex : Nat → Str → D → List Sl → Prop} (R : Rel P c g σ H Z) (h : VP P σ Z v ev) (p : Post ok ex (escA ev g)) :
    ∃ a g' Z', Same Z Z' ∧ Rel P c g' σ H Z' ∧ (∀ {vs as}, FroL P.K Z' vs as → FroL P.K Z' (v :: vs) (a :: as)) ∧ ok a g' := by
  cases ev with
  | fro d => exact ⟨_, g, Z, Same.refl _, R, fun r => .fro h r, p⟩
  | own ds => exact h.elim
  | var i =>
    have h : σ[i]? = some (some v) := h
    have p : Post ok ex (match g[i]? with
      | some (.fro d) => Res.ok (Sl.fro d, g)
      | some (.own ds) => .ok (.fro (.list ds), g.set i (.fro (.list ds)))
      | some (.scr ns) => .ok (.scr ns, g)
      | _ => .stuck) := p
    cases es : g[i]? with
    | none => rw [es] at p; exact p.elim
    | some s =>
      rw [es] at p
      cases s with
      | un => exact p.elim
      | exc k f p' => exact p.elim
      | bor ds => exact p.elim
      | scr ns =>
        obtain ⟨a, e1, r⟩ := R.sl i _ es
        rw [h] at e1; cases e1
        exact ⟨_, g, Z, Same.refl _, R, fun q => .scr r q, p⟩
      | fro d =>
        obtain ⟨w, e1, r⟩ := R.sl i _ es
        rw [h] at e1; cases e1
        exact ⟨_, g, Z, Same.refl _, R, fun q => .fro r q, p⟩
      | own ds =>
        obtain ⟨a, Z', e1, sz, R', r⟩ := R.frzS es
        rw [h] at e1; cases e1
        exact ⟨_, _, Z', sz, R', fun q => .fro r q, p⟩
theorem froL_mono {K : PySem.W.Frag} {Z Z' : Hp} (s : Same Z Z') : ∀ {vs : List V} {as : List Sl}, FroL K Z vs as → FroL K Z' vs as
  | _, _, .nil => .nil
  | _, _, .fro h r => .fro (dpM s h) (froL_mono s r)
  | _, _, .scr h r => .scr (s.seq h) (froL_mono s r)
end
section
variable {P : Pa} {c : Ctx} {σ : St} {H : Hp} {ex : Nat → Str → D → List Sl → Prop}
theorem escAL_ok : ∀ {xs : List EV} {vs : List V} {g : List Sl} {Z : Hp} {ok : List Sl → List Sl → Prop}, Rel P c g σ H Z → VPL P σ Z vs xs → Post ok ex (escAL xs g) → ∃ as g' Z', Same Z Z' ∧ Rel P c g' σ H Z' ∧ FroL P.K Z' vs as ∧ ok as g'
  | [], _, g, Z, ok, R, h, p => by cases h; exact ⟨[], g, Z, Same.refl _, R, .nil, p⟩
  | x :: xs, _, g, Z, ok, R, h, p => by
    cases h with
    | cons h1 h2 =>
      obtain ⟨a, g1, Z1, s1, R1, r1, p1⟩ := escA_ok R h1 (post_bnd.mp p)
      obtain ⟨as, g2, Z2, s2, R2, r2, p2⟩ := escAL_ok R1 (h2.mono s1) (post_bnd.mp p1)
      refine ⟨a :: as, g2, Z2, s1.trans s2, R2, ?_, p2⟩
      have := r1 (vs := []) (as := []) .nil
      cases this with
      | fro h _ => exact .fro (dpM s2 h) r2
      | scr h _ => exact .scr (s2.seq h) r2
end
/-- a value handed back -/
theorem resV_vr {P : Pa} {c : Ctx} {g : List Sl} {σ : St} {H Z H' Z' : Hp} {v : V} {ev : EV} (R : Rel P c g σ H Z) (h : ResV P.K H H' Z' v ev) : VR P c g σ H' Z' v ev := by
  cases ev with
  | fro d => exact h
  | var i => exact h.elim
  | own ds =>
    obtain ⟨a, vs, rfl, h1, h2, h3, r⟩ := h
    refine ⟨a, vs, rfl, h1, h2, R.dom h3, r, fun i hi e => ?_⟩
    cases es : g[i]? with
    | none => rw [es] at hi; cases hi
    | some s =>
      rw [es] at hi
      cases s with
      | own ds' =>
        obtain ⟨b, ws, e1, k1, _⟩ := R.sl i _ es
        rw [e] at e1; cases e1
        rw [h3] at k1; cases k1
      | un => cases hi
      | fro _ => cases hi
      | bor _ => cases hi
      | exc _ _ _ => cases hi
      | scr _ => cases hi
def borCall (f : Fd) (i : Nat) (as : List Sl) : SM EV := fun g => match g[i]? with
  | some (.own ds) => (match f (.bor ds :: as) with
    | .ok ev (some ds') => .ok (ev, g.set i (.own ds'))
    | .exn k x p (some ds') => .exn k x p (g.set i (.own ds'))
    | _ => .stuck)
  | some (.bor ds) => (match f (.bor ds :: as) with
    | .ok ev (some ds') => .ok (ev, g.set i (.bor ds'))
    | .exn k x p (some ds') => .exn k x p (g.set i (.bor ds'))
    | _ => .stuck)
  | _ => .stuck
/-- a call that may rewrite the list of its first argument -/
def callB (f : Fd) (da : SM (List EV)) : SM EV := bnd da fun evs => match evs with
  | .var i :: r => bnd (escAL r) fun as => borCall f i as
  | _ => fun _ => .stuck
section
variable {X : Cx} {P : Pa} {W : WX} {e : Expr} {es : List Expr} {pos p0 : Pos} {x : Str} {f : Addr} {fd : FuncData} {ps : List Str} {k n : Nat} {F : Fd}
theorem me_call {da : SM (List EV)} (G : FnOk X.prog X.w X.K X.mg X.base (L2.CX X.prog X.w) k f fd ps (SpD P.K P.cA n F)) (hF : ∀ as : List Sl, as.length ≠ n → F as = .stuck) (hr : Room k X.A) (hg : Gl X x) (hm : X.mg x = some (.ref f)) (hk : PySem.W.keepIn X.K (.ref f) = true) (hb : Binds X.K fd ps []) (tk : Takes X W)
    (ha : PA X (e :: es) (TAo P W da)) (hdb : (x == ("__debug__" : Str)) = false := by decide) (he : starEach (e :: es) X.env = (false, eval e X.env) :: starEach es X.env := by rfl) (hpl : (backTo pos (starEach es X.env)).any (·.1) = false := by rfl) :
    PE X (.Call (.Name x p0) (e :: es) [] pos) (TEo P W (callE F da)) := by
  refine peW (pe_callS (E := WE W) G hr hg hm hk hb (fun σ => passAt tk σ) ha hdb he hpl) fun σ H Q ⟨c, g, Z, R, p⟩ => ?_
  refine TAo.on R p fun ys g2 ws H2 Z2 s2 R2 vy p2 => ?_
  obtain ⟨as, g3, Z3, s3, R3, r3, p3⟩ := escAL_ok R2 vy (post_bnd.mp p2)
  have hn : as.length = n := by
    by_cases h : as.length = n
    · exact h
    · unfold ansE at p3; rw [hF as h] at p3; exact p3.elim
  refine frp_spD hn R3.sub (.none r3) ?_
  unfold ansE at p3
  cases e1 : F as with
  | stuck => rw [e1] at p3; exact p3
  | ok ev b =>
    rw [e1] at p3
    exact fun v H' Z' L rv => p3 v H' Z' ((s2.trans s3).trans L.sz) (R3.left L) (resV_vr R3 rv)
  | exn k x p' b =>
    rw [e1] at p3
    exact fun dd v H' Z' L ez rv => p3 dd v H' Z' ez rv (R3.left L)
theorem borCall_ok {s : List D → Sl} (hs : s = Sl.own ∨ s = Sl.bor) {c : Ctx} {g : List Sl} {σ : St} {H Z : Hp} {i : Nat} {ds : List D} {as : List Sl} {ok : EV → List Sl → Prop} {ex : Nat → Str → D → List Sl → Prop} {Q : VK} {E : XK} {v0 : V} {vs : List V} (R : Rel P c g σ H Z) (hi : g[i]? = some (s ds)) (h0 : σ[i]? = some (some v0)) (r : FroL P.K Z vs as)
    (hF : ∀ as : List Sl, as.length ≠ n → F as = .stuck)
    (p : Post ok ex (match F (.bor ds :: as) with
      | .ok ev (some ds') => Res.ok (ev, g.set i (s ds'))
      | .exn k x p (some ds') => .exn k x p (g.set i (s ds'))
      | _ => .stuck))
    (h1 : ∀ ev g' v H' Z', Same Z Z' → Rel P c g' σ H' Z' → VR P c g' σ H' Z' v ev → ok ev g' → Q v H') (h2 : ∀ k x q g' dd v H' Z', Z' dd = some (.xd [(x, v)]) → Dq P.K Z' v q → Rel P c g' σ H' Z' → ex k x q g' → E (.ref (P.cA k)) (some dd) H') :
    SpD P.K P.cA n F (v0 :: vs) H Q E := by
  have key : ∃ a ws, v0 = .ref a ∧ H a = some (.lst ws) ∧ Z a = none ∧ DqAll P.K Z ws ds := by
    rcases hs with rfl | rfl
    · obtain ⟨a, ws, e1, k1, k2, _, r⟩ := R.sl i _ hi; rw [h0] at e1; cases e1; exact ⟨a, ws, rfl, k1, k2, r⟩
    · obtain ⟨a, ws, e1, k1, k2, _, r⟩ := R.sl i _ hi; rw [h0] at e1; cases e1; exact ⟨a, ws, rfl, k1, k2, r⟩
  obtain ⟨a, ws, rfl, k1, k2, rd⟩ := key
  have hn : (Sl.bor ds :: as).length = n := by
    by_cases h : (Sl.bor ds :: as).length = n
    · exact h
    · rw [hF _ h] at p; exact p.elim
  refine frp_spD hn R.sub (.some k1 k2 rd r) ?_
  cases e1 : F (.bor ds :: as) with
  | stuck => rw [e1] at p; exact p
  | ok ev b =>
    rw [e1] at p
    cases b with
    | none => exact p.elim
    | some ds' =>
      intro v H' Z' L rv
      have R' := R.leftB hs hi h0 L rfl
      refine h1 ev _ v H' Z' L.sz R' ?_ p
      -- the value: of new objects
      cases ev with
      | fro d => exact rv
      | var j => exact rv.elim
      | own es =>
        obtain ⟨b, us, rfl, q1, q2, q3, qr⟩ := rv
        refine ⟨b, us, rfl, q1, q2, R.dom q3, qr, fun j hj ej => ?_⟩
        cases es' : (g.set i (s ds'))[j]? with
        | none => rw [es'] at hj; cases hj
        | some t =>
          rw [es'] at hj
          rcases getE_set es' with ⟨rfl, _⟩ | ⟨hne, e5⟩
          · rw [h0] at ej; cases ej; rw [q3] at k1; cases k1
          · cases t with
            | own ds2 => obtain ⟨b2, us2, e6, k6, _⟩ := R.sl j _ e5; rw [ej] at e6; cases e6; rw [q3] at k6; cases k6
            | un => cases hj
            | fro _ => cases hj
            | bor _ => cases hj
            | exc _ _ _ => cases hj
            | scr _ => cases hj
  | exn k x p' b =>
    rw [e1] at p
    cases b with
    | none => exact p.elim
    | some ds' => exact fun dd v H' Z' L ez rv => h2 k x p' _ dd v H' Z' ez rv (R.leftB hs hi h0 L rfl) p
theorem me_callB' {da : SM (List EV)} (G : FnOk X.prog X.w X.K X.mg X.base (L2.CX X.prog X.w) k f fd ps (SpD P.K P.cA n F)) (hF : ∀ as : List Sl, as.length ≠ n → F as = .stuck) (hr : Room k X.A) (hg : Gl X x) (hm : X.mg x = some (.ref f)) (hk : PySem.W.keepIn X.K (.ref f) = true) (hb : Binds X.K fd ps []) (tk : Takes X W)
    (ha : PA X (e :: es) (TAo P W da)) (hdb : (x == ("__debug__" : Str)) = false := by decide) (he : starEach (e :: es) X.env = (false, eval e X.env) :: starEach es X.env := by rfl) (hpl : (backTo pos (starEach es X.env)).any (·.1) = false := by rfl) :
    PE X (.Call (.Name x p0) (e :: es) [] pos) (TEo P W (callB F da)) := by
  refine peW (pe_callS (E := WE W) G hr hg hm hk hb (fun σ => passAt tk σ) ha hdb he hpl) fun σ H Q ⟨c, g, Z, R, p⟩ => ?_
  refine TAo.on R p fun ys g2 ws H2 Z2 s2 R2 vy p2 => ?_
  cases vy with
  | nil => exact p2.elim
  | @cons v0 vs ev evs hv hr' =>
    cases ev with
    | fro d => exact p2.elim
    | own ds => exact p2.elim
    | var i =>
      obtain ⟨as, g3, Z3, s3, R3, r3, p3⟩ := escAL_ok R2 hr' (post_bnd.mp p2)
      have h0 : σ[i]? = some (some v0) := hv
      unfold borCall at p3
      cases es' : g3[i]? with
      | none => rw [es'] at p3; exact p3.elim
      | some t =>
        rw [es'] at p3
        cases t with
        | un => exact p3.elim
        | fro _ => exact p3.elim
        | exc _ _ _ => exact p3.elim
        | scr _ => exact p3.elim
        | own ds => exact borCall_ok (s := Sl.own) (.inl rfl) R3 es' h0 r3 hF p3 (fun ev g' v H' Z' s' R' vr q => q v H' Z' ((s2.trans s3).trans s') R' vr) fun k x q g' dd v H' Z' ez rv R' qq => qq dd v H' Z' ez rv R'
        | bor ds => exact borCall_ok (s := Sl.bor) (.inr rfl) R3 es' h0 r3 hF p3 (fun ev g' v H' Z' s' R' vr q => q v H' Z' ((s2.trans s3).trans s') R' vr) fun k x q g' dd v H' Z' ez rv R' qq => qq dd v H' Z' ez rv R'
end
end Mw
namespace Mw
open PySem L2 PySem.Spec

/-! ## an object is held while something else runs -/
def Ctx.hold (c : Ctx) (p : Addr) (x : HO) : Ctx := ⟨fun b => if b = p then some x else c.H0 b, fun b => if b = p then none else c.Z0 b, c.B⟩
def NoOwn (g : List Sl) (σ : L2.St) (p : Addr) : Prop := ∀ j : Nat, isO g[j]? = true → σ[j]? ≠ some (some (.ref p))
section
variable {P : Pa} {c : Ctx} {g : List Sl} {σ : L2.St} {H Z : Hp} {p : Addr} {x o : HO}
theorem hold_ne {b : Addr} (h : b ≠ p) : (c.hold p x).H0 b = c.H0 b := if_neg h
theorem Rel.noB (R : Rel P c g σ H Z) (h0 : c.H0 p = none) : c.B ≠ some p := fun z => by
  obtain ⟨_, y, e⟩ := R.bo p z
  rw [h0] at e; cases e
theorem Rel.hold (R : Rel P c g σ H Z) (hp : H p = some x) (hz : Z p = none) (h0 : c.H0 p = none) (hn : NoOwn g σ p) : Rel P (c.hold p x) g σ H Z := by
  refine ⟨R.sub, fun b y e => ?_, fun b y e hb => ?_, fun a e => ?_, R.len, fun i s e => ?_, R.ds, R.b0⟩
  · show Z b = if b = p then none else c.Z0 b
    by_cases hbp : b = p
    · rw [if_pos hbp, hbp]; exact hz
    · rw [if_neg hbp]; rw [hold_ne hbp] at e; exact R.zf b y e
  · by_cases hbp : b = p
    · subst hbp
      have e : (if b = b then some x else c.H0 b) = some y := e
      rw [if_pos rfl] at e; cases e; exact hp
    · rw [hold_ne hbp] at e; exact R.fr b y e hb
  · obtain ⟨h1, y, h2⟩ := R.bo a e
    exact ⟨h1, y, by rw [hold_ne (fun z => by rw [z, h0] at h2; cases h2)]; exact h2⟩
  · have q := R.sl i s e
    cases s with
    | own ds =>
      obtain ⟨a, vs, e1, h1, h2, h3, r⟩ := q
      have ne : a ≠ p := fun z => hn i (by rw [e]; rfl) (z ▸ e1)
      exact ⟨a, vs, e1, h1, h2, by rw [hold_ne ne]; exact h3, r⟩
    | un => exact q
    | fro d => exact q
    | bor ds => exact q
    | exc k f p' => exact q
    | scr ns => exact q
theorem Rel.unhold (R : Rel P (c.hold p x) g σ H Z) (h0 : c.H0 p = none) (hB : c.B ≠ some p) : Rel P c g σ H Z ∧ H p = some x ∧ Z p = none ∧ NoOwn g σ p := by
  have hp : (c.hold p x).H0 p = some x := if_pos rfl
  refine ⟨⟨R.sub, fun b y e => ?_, fun b y e hb => ?_, fun a e => ?_, R.len, fun i s e => ?_, R.ds, R.b0⟩, R.fr p x hp hB, ?_, fun j hj ej => ?_⟩
  · have hbp : b ≠ p := fun z => by rw [z, h0] at e; cases e
    have := R.zf b y (by rw [hold_ne hbp]; exact e)
    rw [this]; exact if_neg hbp
  · have hbp : b ≠ p := fun z => by rw [z, h0] at e; cases e
    exact R.fr b y (by rw [hold_ne hbp]; exact e) hb
  · obtain ⟨h1, y, h2⟩ := R.bo a e
    have hap : a ≠ p := fun z => hB (z ▸ e)
    rw [hold_ne hap] at h2
    exact ⟨h1, y, h2⟩
  · have q := R.sl i s e
    cases s with
    | own ds =>
      obtain ⟨a, vs, e1, h1, h2, h3, r⟩ := q
      have ne : a ≠ p := fun z => by rw [z, hp] at h3; cases h3
      rw [hold_ne ne] at h3
      exact ⟨a, vs, e1, h1, h2, h3, r⟩
    | un => exact q
    | fro d => exact q
    | bor ds => exact q
    | exc k f p' => exact q
    | scr ns => exact q
  · rw [R.zf p x hp]; exact if_pos rfl
  · cases es : g[j]? with
    | none => rw [es] at hj; cases hj
    | some s =>
      rw [es] at hj
      cases s with
      | own ds =>
        obtain ⟨a, vs, e1, h1, h2, h3, r⟩ := R.sl j _ es
        rw [ej] at e1; cases e1
        rw [hp] at h3; cases h3
      | un => cases hj
      | fro _ => cases hj
      | bor _ => cases hj
      | exc _ _ _ => cases hj
      | scr _ => cases hj
/-- an object that nobody knows is rewritten -/
theorem Rel.updFree (R : Rel P c g σ H Z) (hz : Z p = none) (h0 : c.H0 p = none) (hn : NoOwn g σ p) : Rel P c g σ (upd H p o) Z := by
  refine ⟨same_out R.sub hz, R.zf, fun b y e hb => ?_, fun a e => ?_, R.len, fun i s e => ?_, R.ds, R.b0⟩
  · rw [upd_ne (fun z => by rw [z, h0] at e; cases e)]; exact R.fr b y e hb
  · obtain ⟨⟨vs, h1⟩, y, h2⟩ := R.bo a e
    exact ⟨⟨vs, by rw [upd_ne (fun z => by rw [z, h0] at h2; cases h2)]; exact h1⟩, y, h2⟩
  · have q := R.sl i s e
    cases s with
    | own ds =>
      obtain ⟨a, vs, e1, h1, h2, h3, r⟩ := q
      have ne : a ≠ p := fun z => hn i (by rw [e]; rfl) (z ▸ e1)
      exact ⟨a, vs, e1, by rw [upd_ne ne]; exact h1, h2, h3, r⟩
    | bor ds =>
      obtain ⟨a, vs, e1, h1, h2, h3, r⟩ := q
      have ne : a ≠ p := fun z => by
        obtain ⟨_, y, e2⟩ := R.bo a h3
        rw [z, h0] at e2; cases e2
      exact ⟨a, vs, e1, by rw [upd_ne ne]; exact h1, h2, h3, r⟩
    | un => exact q
    | fro d => exact q
    | exc k f p' => exact q
    | scr ns => exact q
end

/-! ## comprehensions -/
def wipeG (g : List Sl) : List Nat → List Sl
  | [] => g
  | v :: vs => (wipeG g vs).set v .un
def keepSl : Option Sl → Sl
  | some (.fro d) => .fro d
  | _ => .un
def restG : List Nat → List Sl → List Sl → List Sl
  | [], _, g' => g'
  | v :: vs, g, g' => restG vs g (g'.set v (keepSl g[v]?))
def lcL (vs : List Nat) (t : Tg) (q : SM Bool) (el : SM EV) : List D → List D → SM (List D)
  | acc, [] => ret acc
  | acc, d :: ds => bnd (t.put d) fun _ => bnd q fun b => if b then bnd el fun ev => bnd (esc (frz ev)) fun x => fun g =>
      if acc.length < SZ then lcL vs t q el (acc ++ [x]) ds (wipeG g vs) else .stuck
    else fun g => lcL vs t q el acc ds (wipeG g vs)
def lcE (vs : List Nat) (it : SM (List D)) (t : Tg) (q : SM Bool) (el : SM EV) : SM EV := bnd it fun ds => fun g => match lcL vs t q el [] ds (wipeG g vs) with
  | .ok (acc, g1) => .ok (.own acc, restG vs g g1)
  | _ => .stuck
section
variable {P : Pa} {c : Ctx} {g g' : List Sl} {σ : L2.St} {H Z : Hp}
theorem Rel.wipe (R : Rel P c g σ H Z) : ∀ vs : List Nat, Rel P c (wipeG g vs) (L2.wipe σ vs) H Z
  | [] => R
  | v :: vs => (R.wipe vs).forget v none
theorem sets_wipe : ∀ {is : List Nat} {ws : List V} {σ : L2.St} {vs : List Nat}, (∀ i ∈ is, i ∈ vs) → L2.wipe (sets is ws σ) vs = L2.wipe σ vs
  | [], _, _, _, _ => by unfold sets; rfl
  | i :: is, [], _, _, _ => rfl
  | i :: is, w :: ws, σ, vs, h => by
    show L2.wipe (sets is ws (σ.set i (some w))) vs = _
    rw [sets_wipe fun j hj => h j (List.mem_cons_of_mem _ hj)]
    have hi := h i List.mem_cons_self
    clear h
    induction vs with
    | nil => cases hi
    | cons v vs ih =>
      show (L2.wipe (σ.set i (some w)) vs).set v none = (L2.wipe σ vs).set v none
      by_cases e : i ∈ vs
      · rw [ih e]
      · have ev : i = v := (List.mem_cons.mp hi).resolve_right e
        subst ev
        have gen : ∀ us : List Nat, i ∉ us → L2.wipe (σ.set i (some w)) us = (L2.wipe σ us).set i (some w) := by
          intro us
          induction us with
          | nil => intro _; rfl
          | cons u us ihu =>
            intro hu
            simp only [List.mem_cons, not_or] at hu
            show (L2.wipe (σ.set i (some w)) us).set u none = ((L2.wipe σ us).set u none).set i (some w)
            rw [ihu hu.2, List.set_comm _ _ hu.1]
        rw [gen vs e, List.set_set]
theorem Rel.unwipe (R0 : ∀ (i : Nat) (d : D), g[i]? = some (.fro d) → ∃ v, σ[i]? = some (some v) ∧ Dq P.K Z v d) : ∀ {vs : List Nat} {g' : List Sl}, vs.Nodup → Rel P c g' (L2.wipe σ vs) H Z → Rel P c (restG vs g g') σ H Z
  | [], _, _, R => R
  | v :: vs, g', hd, R => by
    obtain ⟨hv, hd'⟩ := List.nodup_cons.mp hd
    show Rel P c (restG vs g (g'.set v (keepSl g[v]?))) σ H Z
    refine Rel.unwipe (vs := vs) (g' := g'.set v (keepSl g[v]?)) R0 hd' ?_
    by_cases hl : v < (L2.wipe σ vs).length
    · have hs : v < σ.length := by rw [L2.wipe_length] at hl; exact hl
      have e1 : (L2.wipe σ (v :: vs)).set v σ[v] = L2.wipe σ vs := by
        show ((L2.wipe σ vs).set v none).set v σ[v] = L2.wipe σ vs
        rw [List.set_set]
        have e2 : (L2.wipe σ vs)[v]'hl = σ[v] := by
          have := L2.wipe_out (σ := σ) hv
          rw [List.getElem?_eq_getElem hl, List.getElem?_eq_getElem hs] at this
          exact Option.some.inj this
        rw [← e2]; exact List.set_getElem_self hl
      have hl2 : v < (L2.wipe σ (v :: vs)).length := by rw [L2.wipe_length]; exact hs
      have := R.put (i := v) (v := σ[v]) (s := keepSl g[v]?) hl2 ?_ ?_ ?_
      · rw [e1] at this; exact this
      · cases eg : g[v]? with
        | none => trivial
        | some s =>
          cases s with
          | fro d =>
            obtain ⟨w, ew, r⟩ := R0 v d eg
            rw [List.getElem?_eq_getElem hs] at ew
            exact ⟨w, ew, r⟩
          | un => trivial
          | own _ => trivial
          | bor _ => trivial
          | exc _ _ _ => trivial
          | scr _ => trivial
      · intro h
        cases eg : g[v]? with
        | none => rw [eg] at h; cases h
        | some s => rw [eg] at h; cases s <;> cases h
      · intro ds h
        cases eg : g[v]? with
        | none => rw [eg] at h; cases h
        | some s => rw [eg] at h; cases s <;> cases h
    · have e1 : L2.wipe σ (v :: vs) = L2.wipe σ vs := List.set_eq_of_length_le (by omega)
      rw [e1] at R
      have e2 : g'.set v (keepSl g[v]?) = g' := List.set_eq_of_length_le (by rw [R.len]; omega)
      rw [e2]; exact R
end
def W0 : WX := fun _ _ _ _ => False
theorem exK_W0 {P : Pa} {c : Ctx} {σ : L2.St} {α : Type} {r : Res (α × List Sl)} {ok : α → List Sl → Prop} {ex : Nat → Str → D → List Sl → Prop} (p : Post ok (fun _ _ _ _ => False) r) : Post ok ex r := post_mono p (fun _ _ q => q) fun _ _ _ _ q => q.elim
/-- a comprehension's reading -/
theorem lc_w {P : Pa} {W : WX} {vs : List Nat} {it : SM (List D)} {t : Tg} {q : SM Bool} {el : SM EV} {tt : TT} (hv : vs.Nodup) (ht : ∀ i ∈ t.slots, i ∈ vs) (htt : ∀ σ H Q, TTo P W0 q σ H Q → tt σ H Q) :
    ∀ σ H Q, TEo P W (lcE vs it t q el) σ H Q → tLc (TIo P W it) (TGo P t) tt (TEo P W0 el) vs σ H Q := by
  intro σ H Q ⟨c, g, Z, R, p⟩
  refine ⟨c, g, Z, R, post_mono (post_bnd.mp p) (fun ds g1 p1 H1 Z1 J s1 R1 w Dd hD => ?_) fun _ _ _ _ q => q⟩
  -- the run's end
  cases er : lcL vs t q el [] ds (wipeG g1 vs) with
  | stuck => rw [er] at p1; exact p1.elim
  | exn k f p' g' => rw [er] at p1; exact p1.elim
  | ok fin =>
  obtain ⟨accF, gF⟩ := fin
  rw [er] at p1
  have p1 : ∀ v H' Z', Same Z Z' → Rel P c (restG vs g1 gF) σ H' Z' → VR P c (restG vs g1 gF) σ H' Z' v (.own accF) → Q v H' := p1
  have d0 := R1.dom hD
  have hB := R1.noB d0
  let Iv : Nat → Hp → Prop := fun i H => ∃ (g' : List Sl) (Z' : Hp) (aD : List D) (aV : List V), Same Z1 Z' ∧ Rel P c g' (L2.wipe σ vs) H Z' ∧ H Dd = some (.lst aV) ∧ Z' Dd = none ∧ DqAll P.K Z' aV aD ∧ NoOwn g' (L2.wipe σ vs) Dd ∧
    lcL vs t q el aD (ds.drop i) g' = .ok (accF, gF)
  have fresh : NoOwn (wipeG g1 vs) (L2.wipe σ vs) Dd := fun j hj e => by
    obtain ⟨h1, _⟩ := L2.wipe_some e
    cases es : (wipeG g1 vs)[j]? with
    | none => rw [es] at hj; cases hj
    | some s =>
      rw [es] at hj
      cases s with
      | own ds' =>
        obtain ⟨a, ws, e1, k1, _⟩ := (R1.wipe vs).sl j _ es
        rw [e] at e1; cases e1
        rw [hD] at k1; cases k1
      | un => cases hj
      | fro _ => cases hj
      | bor _ => cases hj
      | exc _ _ _ => cases hj
      | scr _ => cases hj
  refine ⟨fun i m H => m = ds.length - i ∧ i ≤ ds.length ∧ Iv i H, ⟨_, rfl, Nat.zero_le _, wipeG g1 vs, Z1, [], [], Same.refl _, (R1.wipe vs).newH hD, upd_same, R1.zn hD, .nil, fresh, er⟩, ?_⟩
  rintro i m H' ⟨rfl, hi, g', Z', aD, aV, s', R', hD', zD', r', hn', eq'⟩
  have w' := w.mono s'
  by_cases hlt : i < ds.length
  · refine .inr ⟨w'.go i H' hlt R'.sub, fun H2 => i + 1 ≤ ds.length ∧ Iv (i + 1) H2, fun H2 ⟨h1, q2⟩ => ⟨ds.length - (i + 1), by omega, rfl, h1, q2⟩, fun x H2 y => ?_⟩
    have RH := R'.hold hD' zD' d0 hn'
    obtain ⟨d, ed, yd⟩ := w'.yld i H' x H2 hlt R'.sub y
    obtain ⟨Z2, s2, R2, r2⟩ := yd_in RH yd
    have edr : ds.drop i = d :: ds.drop (i + 1) := by
      rw [List.drop_eq_getElem_cons hlt]
      rw [List.getElem?_eq_getElem hlt] at ed
      rw [Option.some.inj ed]
    rw [edr] at eq'
    -- the turn's run
    have run : Post (fun acc g => acc = accF ∧ g = gF) (fun _ _ _ _ => False) (lcL vs t q el aD (d :: ds.drop (i + 1)) g') := by rw [eq']; exact ⟨rfl, rfl⟩
    have q2 := post_bnd.mp run
    refine ⟨_, g', Z2, d, R2, r2, post_mono q2 (fun _ g3 q3 us R3 => ⟨?_, htt _ _ _ ?_⟩) fun _ _ _ _ q => q⟩
    · rw [sets_wipe ht]
      have : ∀ us : List Nat, L2.wipe (L2.wipe σ us) us = L2.wipe σ us := by
        intro us
        refine List.ext_getElem? fun j => ?_
        by_cases hj : j ∈ us
        · have f : ∀ (τ : L2.St) (us : List Nat), j ∈ us → (L2.wipe τ us)[j]? = (τ[j]?).map fun _ => none := by
            intro τ us
            induction us with
            | nil => intro h; cases h
            | cons u us ih =>
              intro h
              show ((L2.wipe τ us).set u none)[j]? = _
              by_cases e : u = j
              · subst e
                by_cases hl : u < (L2.wipe τ us).length
                · rw [List.getElem?_set_self hl, List.getElem?_eq_getElem (by rw [L2.wipe_length] at hl; exact hl)]; rfl
                · rw [List.getElem?_eq_none (by simpa using hl), List.getElem?_eq_none (by rw [L2.wipe_length] at hl; omega)]; rfl
              · rw [List.getElem?_set_ne e, ih ((List.mem_cons.mp h).resolve_left (Ne.symm e))]
          rw [f _ us hj, f _ us hj, Option.map_map]; rfl
        · rw [L2.wipe_out hj]
      exact this vs
    refine ⟨_, g3, Z2, R3, post_mono (post_bnd.mp q3) (fun b g4 q4 H4 Z4 s4 R4 => ?_) fun _ _ _ _ q => q.elim⟩
    have back : ∀ {gx : List Sl} {Hx Zx : Hp}, Rel P (c.hold Dd (.lst aV)) gx (sets t.slots us (L2.wipe σ vs)) Hx Zx →
        Rel P (c.hold Dd (.lst aV)) (wipeG gx vs) (L2.wipe σ vs) Hx Zx := fun {gx Hx Zx} Rx => by
      have := Rx.wipe vs
      rw [sets_wipe ht] at this
      have idem : L2.wipe (L2.wipe σ vs) vs = L2.wipe σ vs := by
        have h0 := this.len
        refine List.ext_getElem? fun j => ?_
        by_cases hj : j ∈ vs
        · have f : ∀ (τ : L2.St) (us : List Nat), j ∈ us → (L2.wipe τ us)[j]? = (τ[j]?).map fun _ => none := by
            intro τ us
            induction us with
            | nil => intro h; cases h
            | cons u us ih =>
              intro h
              show ((L2.wipe τ us).set u none)[j]? = _
              by_cases e : u = j
              · subst e
                by_cases hl : u < (L2.wipe τ us).length
                · rw [List.getElem?_set_self hl, List.getElem?_eq_getElem (by rw [L2.wipe_length] at hl; exact hl)]; rfl
                · rw [List.getElem?_eq_none (by simpa using hl), List.getElem?_eq_none (by rw [L2.wipe_length] at hl; omega)]; rfl
              · rw [List.getElem?_set_ne e, ih ((List.mem_cons.mp h).resolve_left (Ne.symm e))]
          rw [f _ vs hj, f _ vs hj, Option.map_map]; rfl
        · rw [L2.wipe_out hj]
      rw [idem] at this
      exact this
    cases b with
    | false =>
      refine iteF ?_
      obtain ⟨R5, h5, z5, n5⟩ := (back R4).unhold d0 hB
      have q4 : Post (fun acc g => acc = accF ∧ g = gF) (fun _ _ _ _ => False) (lcL vs t q el aD (ds.drop (i + 1)) (wipeG g4 vs)) := q4
      refine ⟨hlt, wipeG g4 vs, Z4, aD, aV, (s'.trans s2).trans s4, R5, h5, z5, dpAM (s2.trans s4) r', n5, ?_⟩
      cases e5 : lcL vs t q el aD (ds.drop (i + 1)) (wipeG g4 vs) with
      | ok z => obtain ⟨z1, z2⟩ := z; rw [e5] at q4; obtain ⟨rfl, rfl⟩ := q4; rfl
      | exn _ _ _ _ => rw [e5] at q4; exact q4.elim
      | stuck => rw [e5] at q4; exact q4.elim
    | true =>
      refine iteT ?_
      refine ⟨_, g4, Z4, R4, post_mono (post_bnd.mp q4) (fun ev g5 q5 v5 H5 Z5 s5 R5 vr5 => ?_) fun _ _ _ _ q => q.elim⟩
      obtain ⟨Z6, s6, R6, vp6⟩ := vr5.frz R5
      obtain ⟨dx, g7, Z7, s7, R7, r7, q7⟩ := esc_ok R6 vp6 (post_bnd.mp q5)
      by_cases hsz : aD.length < SZ
      · rw [if_pos hsz] at q7
        obtain ⟨R8, h8, z8, n8⟩ := (back R7).unhold d0 hB
        have sA : Same Z' Z7 := (((s2.trans s4).trans s5).trans s6).trans s7
        refine ⟨aV, h8, by rw [dpA_len r', ← SZ_eq]; exact hsz, hlt, wipeG g7 vs, Z7, aD ++ [dx], aV ++ [v5], s'.trans sA, R8.updFree z8 d0 n8, upd_same, z8, dpA_app (dpAM sA r') (.cons r7 .nil), n8, ?_⟩
        cases e5 : lcL vs t q el (aD ++ [dx]) (ds.drop (i + 1)) (wipeG g7 vs) with
        | ok z => obtain ⟨z1, z2⟩ := z; rw [e5] at q7; obtain ⟨rfl, rfl⟩ := q7; rfl
        | exn _ _ _ _ => rw [e5] at q7; exact q7.elim
        | stuck => rw [e5] at q7; exact q7.elim
      · rw [if_neg hsz] at q7; exact q7.elim
  · have e : i = ds.length := by omega
    subst e
    rw [List.drop_length] at eq'
    have eq' : Res.ok (aD, g') = Res.ok (accF, gF) := eq'
    cases eq'
    have RF : Rel P c (restG vs g1 gF) σ H' Z' := Rel.unwipe (fun i d e => by obtain ⟨v, e1, r⟩ := R1.sl i _ e; exact ⟨v, e1, dpM s' r⟩) hv R'
    refine .inl ⟨w'.stop H' R'.sub, p1 _ H' Z' (s1.trans s') RF ⟨Dd, aV, rfl, hD', zD', d0, r', fun j hj ej => ?_⟩⟩
    have hj' : isO gF[j]? = true := by
      have : ∀ (us : List Nat) (gx : List Sl), isO (restG us g1 gx)[j]? = true → isO gx[j]? = true := by
        intro us
        induction us with
        | nil => intro gx h; exact h
        | cons u us ih =>
          intro gx h
          refine isO_set (x := keepSl g1[u]?) ?_ (ih _ h)
          cases g1[u]? with
          | none => rfl
          | some s => cases s <;> rfl
      exact this vs gF hj
    refine hn' j hj' ?_
    by_cases hjv : j ∈ vs
    · exfalso
      have : ∀ (us : List Nat) (gx : List Sl), j ∈ us → us.Nodup → isO (restG us g1 gx)[j]? = false := by
        intro us
        induction us with
        | nil => intro gx h; cases h
        | cons u us ih =>
          intro gx h hnd
          obtain ⟨h1, h2⟩ := List.nodup_cons.mp hnd
          by_cases e : j ∈ us
          · exact ih _ e h2
          · have eu : j = u := (List.mem_cons.mp h).resolve_right e
            subst eu
            have out : ∀ (us : List Nat) (gx : List Sl), j ∉ us → (restG us g1 gx)[j]? = gx[j]? := by
              intro us
              induction us with
              | nil => intro gx _; rfl
              | cons u us ih =>
                intro gx h
                simp only [List.mem_cons, not_or] at h
                show (restG us g1 (gx.set u _))[j]? = _
                rw [ih _ h.2, List.getElem?_set_ne (Ne.symm h.1)]
            show isO (restG us g1 (gx.set j _))[j]? = false
            rw [out us _ e]
            by_cases hl : j < gx.length
            · rw [List.getElem?_set_self hl]
              cases g1[j]? with
              | none => rfl
              | some s => cases s <;> rfl
            · rw [List.getElem?_eq_none (by simpa using hl)]; rfl
      rw [this vs gF hjv hv] at hj; cases hj
    · rw [L2.wipe_out hjv]; exact ej
end Mw
namespace Mw
open PySem L2

/-! ## what is walked: lists, tuples, ranges, zip -/
theorem pi_either {X : Cx} {tg l : Expr} {tl : TE} (hl : PE X l tl) : PI X tg l (fun σ H R => tl σ H fun x H1 => ∃ a, x = .ref a ∧ (((∃ xs, SqL X.K H1 a xs) ∧ R (Itl X.K a) H1) ∨ ((∃ xs, SqT X.K H1 a xs) ∧ R (Itt X.K a) H1))) := by
  refine ⟨fun pins s σ H R I h => thn (hl.run pins s σ H _ I h) fun v s1 q1 => ?_⟩
  obtain ⟨x, H1, I1, r1, a, rfl, q⟩ := q1
  cases r1
  have new : ∀ {o : Obj} (b : Addr), b ∈ [s1.heap.objs.size] → FpOk X pins H1 b := fun b hb => by
    have e : b = s1.heap.objs.size := by simpa using hb
    rw [e]
    exact I1.fpOk (Nat.le_refl _) I1.fresh
  rcases q with ⟨⟨xs, hq⟩, q⟩ | ⟨⟨xs, hq⟩, q⟩
  · obtain ⟨its, rv, p, hz⟩ := I1.list hq
    refine PySem.wpAny_pyIter_list p.isList ?_
    exact ⟨_, [s1.heap.objs.size], _, _, H1, rfl, I1.kept (t' := s1.toks) (fun b o e => Heap.get?_push_of_some _ e), turn_list a _, ⟨_, Heap.get?_push_size _ rfl, rfl, rfl⟩, new (o := default), q⟩
  · obtain ⟨its, rv, p, hz⟩ := I1.tuple hq
    refine PySem.wpAny_pyIter_tuple (show s1.heap.IsTuple a its.toArray from p) ?_
    exact ⟨_, [s1.heap.objs.size], _, _, H1, rfl, I1.kept (t' := s1.toks) (fun b o e => Heap.get?_push_of_some _ e), turn_tuple a _, ⟨_, Heap.get?_push_size _ rfl, rfl, rfl⟩, new (o := default), q⟩
def seqS' (d : D) : SM (List D) := match seqOf d with
  | some ds => ret ds
  | none => fun _ => .stuck
def seqE (da : SM EV) : SM (List D) := onE da fun ev => bnd (esc ev) seqS'
section
variable {P : Pa} {Z : Hp} {a : Addr} {ds : List D}
theorem walk_l {vs : List V} (h : Z a = some (.lst vs)) (r : DqAll P.K Z vs ds) : WalkD P Z (Itl P.K a) ds := by
  have hl := dpA_len r
  refine ⟨fun i H hi s => ?_, fun H s => ⟨vs, SqL.of (s _ _ h), by omega⟩, fun i H x H' hi s y => ?_⟩
  · have hv : i < vs.length := by omega
    exact ⟨vs, vs[i], SqL.of (s _ _ h), List.getElem?_eq_getElem hv⟩
  · obtain ⟨e, hx⟩ := y
    obtain ⟨d, e1, r1⟩ := dpA_gi r (hx vs (SqL.of (s _ _ h)))
    exact ⟨d, e1, .inl ⟨e, r1⟩⟩
theorem walk_t {vs : List V} (h : SqT P.K Z a vs) (r : DqAll P.K Z vs ds) : WalkD P Z (Itt P.K a) ds := by
  have hl := dpA_len r
  refine ⟨fun i H hi s => ?_, fun H s => ⟨vs, seqT s h, by omega⟩, fun i H x H' hi s y => ?_⟩
  · have hv : i < vs.length := by omega
    exact ⟨vs, vs[i], seqT s h, List.getElem?_eq_getElem hv⟩
  · obtain ⟨e, hx⟩ := y
    obtain ⟨d, e1, r1⟩ := dpA_gi r (hx vs (seqT s h))
    exact ⟨d, e1, .inl ⟨e, r1⟩⟩
end
theorem mi_seq {X : Cx} {P : Pa} {W : WX} {tg e : Expr} {da : SM EV} (hK : P.K = X.K) (he : PE X e (TEo P W da)) : PI X tg e (TIo P W (seqE da)) :=
  piW (pi_either he) fun σ H R' ⟨c, g, Z, R, p⟩ => by
    refine TEo.on R p fun ev g1 v H1 Z1 s1 R1 vp p1 => ?_
    obtain ⟨d, g2, Z2, s2, R2, r2, p2⟩ := esc_ok R1 vp (post_bnd.mp p1)
    cases d with
    | list ds =>
      cases r2 with
      | lst h1 h2 => exact ⟨_, rfl, .inl ⟨⟨_, SqL.of (R2.sub _ _ h1)⟩, by rw [← hK]; exact p2 H1 Z2 _ (s1.trans s2) R2 (walk_l h1 h2)⟩⟩
    | tuple ds =>
      cases r2 with
      | tup h1 h2 => exact ⟨_, rfl, .inr ⟨⟨_, by rw [← hK]; exact seqT R2.sub h1⟩, by rw [← hK]; exact p2 H1 Z2 _ (s1.trans s2) R2 (walk_t h1 h2)⟩⟩
    | none => exact p2.elim
    | bool _ => exact p2.elim
    | int _ => exact p2.elim
    | str _ => exact p2.elim
    | dict _ => exact p2.elim
/-- lo, lo + 1, .. -/
def rngL : Int → Nat → List D
  | _, 0 => []
  | lo, n + 1 => .int lo :: rngL (lo + 1) n
theorem rngL_len : ∀ (lo : Int) (n : Nat), (rngL lo n).length = n
  | _, 0 => rfl
  | lo, n + 1 => by rw [rngL, List.length_cons, rngL_len]
theorem rngL_get : ∀ (lo : Int) (n i : Nat), i < n → (rngL lo n)[i]? = some (.int (lo + i))
  | _, 0, _, h => absurd h (Nat.not_lt_zero _)
  | lo, n + 1, 0, _ => by rw [rngL]; simp
  | lo, n + 1, i + 1, h => by
    rw [rngL, List.getElem?_cons_succ, rngL_get (lo + 1) n i (by omega)]
    congr 2; omega
/-- lo, lo - 1, .. -/
def rngD : Int → Nat → List D
  | _, 0 => []
  | lo, n + 1 => .int lo :: rngD (lo - 1) n
theorem rngD_len : ∀ (lo : Int) (n : Nat), (rngD lo n).length = n
  | _, 0 => rfl
  | lo, n + 1 => by rw [rngD, List.length_cons, rngD_len]
theorem rngD_get : ∀ (lo : Int) (n i : Nat), i < n → (rngD lo n)[i]? = some (.int (lo + i * (-1)))
  | _, 0, _, h => absurd h (Nat.not_lt_zero _)
  | lo, n + 1, 0, _ => by rw [rngD]; simp
  | lo, n + 1, i + 1, h => by
    rw [rngD, List.getElem?_cons_succ, rngD_get (lo - 1) n i (by omega)]
    congr 2; omega
def rOk (i : Int) : Bool := decide (-(2 ^ 62) ≤ i ∧ i < 2 ^ 62)
def rngF1 : List D → Option (List D)
  | [.int j] => if rOk j then some (rngL 0 j.toNat) else none
  | _ => none
def rngF2 : List D → Option (List D)
  | [.int i, .int j] => if rOk i && rOk j then some (rngL i (j - i).toNat) else none
  | _ => none
def rngF3 : List D → Option (List D)
  | [.int i, .int j, .int k] => if rOk i && rOk j && decide (k = -1) then some (rngD i (i - j).toNat) else none
  | _ => none
def rngE (f : List D → Option (List D)) (da : SM (List EV)) : SM (List D) := bnd da fun evs => fun g => match (lookL g evs).bind f with
  | some ds => .ok (ds, g)
  | none => .stuck
section
variable {X : Cx} {P : Pa} {W : WX} {tg a b k : Expr} {p0 pos : Pos} {da : SM (List EV)}
theorem walk_r {Z : Hp} {lo : Int} {n : Nat} : WalkD P Z (Itr lo n) (rngL lo n) :=
  ⟨fun i H hi s => by rw [rngL_len] at hi; exact hi, fun H s => by rw [rngL_len]; exact Nat.le_refl _, fun i H x H' hi s y => by
    rw [rngL_len] at hi
    obtain ⟨e, ex⟩ := y
    exact ⟨_, rngL_get lo n i hi, .inl ⟨e, by rw [ex]; exact .int _⟩⟩⟩
theorem walk_d {Z : Hp} {lo : Int} {n : Nat} : WalkD P Z (Itc lo (-1) n) (rngD lo n) := by
  have w := walk_rangeC (lo := lo) (c := -1) (n := n)
  refine ⟨fun i H hi s => w.goes i H (by rw [rngD_len] at hi; exact hi) trivial, fun H s => by rw [rngD_len]; exact w.stops H trivial, fun i H x H' hi s y => ?_⟩
  rw [rngD_len] at hi
  obtain ⟨e, ex⟩ := w.yields i H x H' hi trivial y
  exact ⟨_, rngD_get lo n i hi, .inl ⟨e, by rw [ex]; exact .int _⟩⟩
theorem rOk_iff {i : Int} (h : rOk i = true) : -(2 ^ 62) ≤ i ∧ i < 2 ^ 62 := of_decide_eq_true h
/-- what the arguments of range are -/
theorem rng_on {f : List D → Option (List D)} {c : Ctx} {g : List Sl} {σ : St} {H Z : Hp} {R' : List V → Hp → Prop} {ok : List D → List Sl → Prop} (R : Rel P c g σ H Z) (p : Post ok (exK P c σ W) (rngE f da g))
    (h : ∀ ds es vs g1 H1 Z1, Same Z Z1 → Rel P c g1 σ H1 Z1 → f es = some ds → RrL P.K H1 Z1 vs es → ok ds g1 → R' vs H1) : TAo P W da σ H R' :=
  TAo.on R p fun evs g1 vs H1 Z1 s1 R1 vp p1 => by
    cases e1 : lookL g1 evs with
    | none => rw [e1] at p1; exact p1.elim
    | some es =>
      rw [e1] at p1
      simp only [Option.bind_some] at p1
      cases e2 : f es with
      | none => rw [e2] at p1; exact p1.elim
      | some ds => rw [e2] at p1; exact h ds es vs g1 H1 Z1 s1 R1 e2 (lookL_rr R1 vp e1) p1
theorem rngF1_inv {es : List D} {ds : List D} (h : rngF1 es = some ds) : ∃ j, es = [.int j] ∧ rOk j = true ∧ ds = rngL 0 j.toNat := by
  unfold rngF1 at h
  split at h
  · rename_i j
    cases e : rOk j with
    | false => rw [e, if_neg Bool.false_ne_true] at h; cases h
    | true => rw [e, if_pos rfl] at h; cases h; exact ⟨j, rfl, e, rfl⟩
  · cases h
theorem rngF2_inv {es : List D} {ds : List D} (h : rngF2 es = some ds) : ∃ i j, es = [.int i, .int j] ∧ rOk i = true ∧ rOk j = true ∧ ds = rngL i (j - i).toNat := by
  unfold rngF2 at h
  split at h
  · rename_i i j
    cases e : (rOk i && rOk j) with
    | false => rw [e, if_neg Bool.false_ne_true] at h; cases h
    | true => rw [e, if_pos rfl] at h; cases h; obtain ⟨a, b⟩ := Bool.and_eq_true_iff.mp e; exact ⟨i, j, rfl, a, b, rfl⟩
  · cases h
theorem rngF3_inv {es : List D} {ds : List D} (h : rngF3 es = some ds) : ∃ i j, es = [.int i, .int j, .int (-1)] ∧ rOk i = true ∧ rOk j = true ∧ ds = rngD i (i - j).toNat := by
  unfold rngF3 at h
  split at h
  · rename_i i j k
    cases e : (rOk i && rOk j && decide (k = -1)) with
    | false => rw [e, if_neg Bool.false_ne_true] at h; cases h
    | true =>
      rw [e, if_pos rfl] at h; cases h
      obtain ⟨ab, c⟩ := Bool.and_eq_true_iff.mp e
      obtain ⟨a, b⟩ := Bool.and_eq_true_iff.mp ab
      exact ⟨i, j, by rw [of_decide_eq_true c], a, b, rfl⟩
  · cases h
theorem mi_rng1 (hg : Gl X "range") (hm : X.mg "range" = none) (ha : PA X [a] (TAo P W da)) (hs : starEach [a] X.env = [(false, eval a X.env)] := by rfl) : PI X tg (.Call (.Name "range" p0) [a] [] pos) (TIo P W (rngE rngF1 da)) :=
  piW (pi_range1 hg hm ha hs) fun σ H R' ⟨c, g, Z, R, p⟩ => rng_on R p fun ds es vs g1 H1 Z1 s1 R1 e2 rl q => by
    obtain ⟨j, rfl, h1, rfl⟩ := rngF1_inv e2
    cases rl with
    | cons h r =>
      cases r
      exact ⟨j, by rw [h.int], (rOk_iff h1).1, (rOk_iff h1).2, q H1 Z1 _ s1 R1 walk_r⟩
theorem mi_rng2 (hg : Gl X "range") (hm : X.mg "range" = none) (ha : PA X [a, b] (TAo P W da)) (hs : starEach [a, b] X.env = [(false, eval a X.env), (false, eval b X.env)] := by rfl) (hs2 : starEach [b] X.env = [(false, eval b X.env)] := by rfl) : PI X tg (.Call (.Name "range" p0) [a, b] [] pos) (TIo P W (rngE rngF2 da)) :=
  piW (pi_range2 hg hm ha hs hs2) fun σ H R' ⟨c, g, Z, R, p⟩ => rng_on R p fun ds es vs g1 H1 Z1 s1 R1 e2 rl q => by
    obtain ⟨i, j, rfl, h1, h2, rfl⟩ := rngF2_inv e2
    cases rl with
    | cons h r =>
      cases r with
      | cons h' r =>
        cases r
        exact ⟨i, j, by rw [h.int, h'.int], ⟨(rOk_iff h1).1, (rOk_iff h1).2, (rOk_iff h2).1, (rOk_iff h2).2⟩, q H1 Z1 _ s1 R1 walk_r⟩
theorem mi_rng3 {hx : PI X tg (.Call (.Name "range" p0) [a, b, k] [] pos) (iRng3 (TAo P W da))} : PI X tg (.Call (.Name "range" p0) [a, b, k] [] pos) (TIo P W (rngE rngF3 da)) :=
  piW hx fun σ H R' ⟨c, g, Z, R, p⟩ => rng_on R p fun ds es vs g1 H1 Z1 s1 R1 e2 rl q => by
    obtain ⟨i, j, rfl, h1, h2, rfl⟩ := rngF3_inv e2
    cases rl with
    | cons h r =>
      cases r with
      | cons h' r =>
        cases r with
        | cons h'' r =>
          cases r
          exact ⟨i, j, -1, _, by rw [h.int, h'.int, h''.int], RgC.neg (rOk_iff h1).1 (rOk_iff h1).2 (rOk_iff h2).1 (rOk_iff h2).2, q H1 Z1 _ s1 R1 walk_d⟩
end

/-! ## comprehensions as expressions, as assignments -/
section
variable {X : Cx} {P : Pa} {W : WX} {elt tg iter : Expr} {ifs : List Expr} {scope : Scope} {own : List (Str × Nat)} {pos : Pos} {it : SM (List D)} {t : Tg} {q : SM Bool} {el : SM EV} {tt : TT}
theorem tt_nil : ∀ σ H Q, TTo P W0 (ret true) σ H Q → tYes σ H Q := fun σ H Q ⟨c, g, Z, R, p⟩ => p H Z (Same.refl _) R
theorem tt_one : ∀ σ H Q, TTo P W0 q σ H Q → TTo P W0 q σ H Q := fun _ _ _ h => h
theorem me_lc (hc : X.calm = true) (hN : X.N.Nodup) (hi : PI X tg iter (TIo P W it)) (ok : BlkOk X.N X.env.scope scope own)
    (hg : ∀ (s : Shared) (H : Hp) (C : Addr) (cl : List (Str × Addr)) (fp : List Addr), PG (X.blk s H scope (compEnvC scope cl C X.env) fp) tg (TGo P t)) (ht : ∀ (s : Shared) (H : Hp) (C : Addr) (cl : List (Str × Addr)) (fp : List Addr), PTs (X.blk s H scope (compEnvC scope cl C X.env) fp) ifs tt)
    (he : ∀ (s : Shared) (H : Hp) (C : Addr) (cl : List (Str × Addr)) (fp : List Addr), PE (X.blk s H scope (compEnvC scope cl C X.env) fp) elt (TEo P W0 el)) (htt : ∀ σ H Q, TTo P W0 q σ H Q → tt σ H Q) (hv : (own.map (·.2)).Nodup) (hs : ∀ i ∈ t.slots, i ∈ own.map (·.2))
    (hf : ∀ x, foldedSetIterable iter X.env x = pure x := by intro _; rfl) :
    PE X (.ListComp elt [⟨tg, iter, ifs, 0⟩] scope pos) (TEo P W (lcE (own.map (·.2)) it t q el)) := peW (pe_lc hc hN hi ok hg ht he hf) (lc_w hv hs htt)
end

/-! ## calls of built-ins -/
def lenF : List D → Option Out
  | [.list ds] => vI (ds.length : Nat)
  | [.tuple ds] => vI (ds.length : Nat)
  | [.str z] => gd (decide (z.length ≤ SZ)) (vI (z.length : Nat))
  | _ => none
def intF : List D → Option Out
  | [.int i] => vI i
  | [.bool k] => vI (if k then 1 else 0)
  | _ => none
def absF : List D → Option Out
  | [.int i] => vI (if i < 0 then -i else i)
  | _ => none
def maxF : List D → Option Out
  | [.int i, .int j] => vI (if j > i then j else i)
  | _ => none
def minF : List D → Option Out
  | [.int i, .int j] => vI (if j < i then j else i)
  | _ => none
def intsOf : List D → Option (List Int)
  | [] => some []
  | .int i :: r => (intsOf r).map (i :: ·)
  | _ => none
def blsOf : List D → Option (List Bool)
  | [] => some []
  | .bool i :: r => (blsOf r).map (i :: ·)
  | _ => none
def sumF : List D → Option Out
  | [.list ds] => (intsOf ds).bind fun ns => vI ns.sum
  | _ => none
def maxL : List Int → Int
  | [] => 0
  | x :: r => r.foldl (fun a b => if b > a then b else a) x
def minL : List Int → Int
  | [] => 0
  | x :: r => r.foldl (fun a b => if b < a then b else a) x
def maxLF : List D → Option Out
  | [.list ds] => (intsOf ds).bind fun ns => gd (!ns.isEmpty) (vI (maxL ns))
  | _ => none
def minLF : List D → Option Out
  | [.list ds] => (intsOf ds).bind fun ns => gd (!ns.isEmpty) (vI (minL ns))
  | _ => none
def allF : List D → Option Out
  | [.list ds] => (blsOf ds).bind fun bs => vB (bs.all id)
  | _ => none
def anyF : List D → Option Out
  | [.list ds] => (blsOf ds).bind fun bs => vB (bs.any id)
  | _ => none
def listF : List D → Option Out
  | [.list ds] => some (.lstN ds)
  | [.tuple ds] => some (.lstN ds)
  | _ => none
def tupleF : List D → Option Out
  | [.list ds] => some (.tupN ds)
  | [.tuple ds] => some (.val (.tuple ds))
  | _ => none
def insI (x : Int) : List Int → List Int
  | [] => [x]
  | y :: r => if x ≤ y then x :: y :: r else y :: insI x r
def isortI : List Int → List Int
  | [] => []
  | x :: r => insI x (isortI r)
def sortedF : List D → Option Out
  | [.list ds] => (intsOf ds).bind fun ns => some (.lstN ((isortI ns).map PyData.int))
  | _ => none
section
variable {X : Cx} {K : PySem.W.Frag}
theorem intsOf_map : ∀ {ds : List D} {ns : List Int}, intsOf ds = some ns → ds = ns.map PyData.int
  | [], _, h => by cases h; rfl
  | d :: ds, ns, h => by
    cases d with
    | int i =>
      unfold intsOf at h
      cases e : intsOf ds with
      | none => rw [e] at h; cases h
      | some ms => rw [e] at h; cases h; rw [intsOf_map e]; rfl
    | _ => cases h
theorem intsOf_ints : ∀ ns : List Int, intsOf (ns.map PyData.int) = some ns
  | [] => rfl
  | n :: ns => by rw [List.map_cons, intsOf, intsOf_ints ns]; rfl
theorem blsOf_map : ∀ {ds : List D} {ns : List Bool}, blsOf ds = some ns → ds = ns.map PyData.bool
  | [], _, h => by cases h; rfl
  | d :: ds, ns, h => by
    cases d with
    | bool i =>
      unfold blsOf at h
      cases e : blsOf ds with
      | none => rw [e] at h; cases h
      | some ms => rw [e] at h; cases h; rw [blsOf_map e]; rfl
    | _ => cases h
theorem blsOf_bls : ∀ ns : List Bool, blsOf (ns.map PyData.bool) = some ns
  | [] => rfl
  | n :: ns => by rw [List.map_cons, blsOf, blsOf_bls ns]; rfl
theorem one_inv {H Z : Hp} {xs : List V} {d : D} (h : RrL K H Z xs [d]) : ∃ v, xs = [v] ∧ Rr K H Z v d := by
  cases h with | cons h r => cases r; exact ⟨_, rfl, h⟩
theorem two_inv {H Z : Hp} {xs : List V} {d e : D} (h : RrL K H Z xs [d, e]) : ∃ v w, xs = [v, w] ∧ Rr K H Z v d ∧ Rr K H Z w e := by
  cases h with | cons h r => cases r with | cons h' r => cases r; exact ⟨_, _, rfl, h, h'⟩
def rLenA (K : PySem.W.Frag) : List V → Hp → VK → Prop := fun xs H Q => (∃ p ys, xs = [.ref p] ∧ (SqL K H p ys ∨ SqT K H p ys) ∧ Q (.int ys.length) H) ∨ ∃ z, xs = [.str z] ∧ z.length ≤ sizeLine ∧ Q (.int z.length) H
theorem c_len : CallR X (.builtin "len") (rLenA X.K) := CallR.or call_len_seq call_len_str
theorem s_len : SoundN K (rLenA K) lenF := by
  intro H Z xs ds o Q s h e q
  unfold lenF at e
  split at e
  · cases e
    obtain ⟨v, rfl, r⟩ := one_inv h
    obtain ⟨a, vs, rfl, h1, r1⟩ := r.lst s
    exact .inl ⟨a, vs, rfl, .inl (SqL.of h1), by rw [dpA_len r1]; exact q _ (.int _)⟩
  · cases e
    obtain ⟨v, rfl, r⟩ := one_inv h
    obtain ⟨a, vs, rfl, h1, r1⟩ := r.tup s
    exact .inl ⟨a, vs, rfl, .inr h1, by rw [dpA_len r1]; exact q _ (.int _)⟩
  · obtain ⟨hb, e⟩ := gd_some e; cases e
    obtain ⟨v, rfl, r⟩ := one_inv h
    exact .inr ⟨_, by rw [r.str], by rw [← SZ_eq]; exact of_decide_eq_true hb, q _ (.int _)⟩
  · cases e
theorem s_int : SoundN K (fun xs H Q => (∃ i, xs = [.int i] ∧ Q (.int i) H) ∨ ∃ k, xs = [.bl k] ∧ Q (.int (if k then 1 else 0)) H) intF := by
  intro H Z xs ds o Q s h e q
  unfold intF at e
  split at e
  · cases e; obtain ⟨v, rfl, r⟩ := one_inv h; exact .inl ⟨_, by rw [r.int], q _ (.int _)⟩
  · cases e; obtain ⟨v, rfl, r⟩ := one_inv h; exact .inr ⟨_, by rw [r.bl], q _ (.int _)⟩
  · cases e
theorem s_abs : SoundN K (fun xs H Q => ∃ i, xs = [.int i] ∧ Q (.int (if i < 0 then -i else i)) H) absF := by
  intro H Z xs ds o Q s h e q
  unfold absF at e
  split at e
  · cases e; obtain ⟨v, rfl, r⟩ := one_inv h; exact ⟨_, by rw [r.int], q _ (.int _)⟩
  · cases e
theorem s_max : SoundN K (fun xs H Q => ∃ i j, xs = [.int i, .int j] ∧ Q (.int (if j > i then j else i)) H) maxF := by
  intro H Z xs ds o Q s h e q
  unfold maxF at e
  split at e
  · cases e; obtain ⟨v, w, rfl, r, r'⟩ := two_inv h; exact ⟨_, _, by rw [r.int, r'.int], q _ (.int _)⟩
  · cases e
theorem s_min : SoundN K (fun xs H Q => ∃ i j, xs = [.int i, .int j] ∧ Q (.int (if j < i then j else i)) H) minF := by
  intro H Z xs ds o Q s h e q
  unfold minF at e
  split at e
  · cases e; obtain ⟨v, w, rfl, r, r'⟩ := two_inv h; exact ⟨_, _, by rw [r.int, r'.int], q _ (.int _)⟩
  · cases e
/-- a list of ints as an argument -/
theorem lints {H Z : Hp} {xs : List V} {ds : List D} {ns : List Int} (s : Same Z H) (h : RrL K H Z xs [.list ds]) (e : intsOf ds = some ns) : ∃ a, xs = [.ref a] ∧ SqL K H a (ns.map V.int) := by
  obtain ⟨v, rfl, r⟩ := one_inv h
  obtain ⟨a, vs, rfl, h1, r1⟩ := r.lst s
  rw [intsOf_map e] at r1
  exact ⟨a, rfl, by rw [← dpA_ints r1]; exact SqL.of h1⟩
theorem lbls {H Z : Hp} {xs : List V} {ds : List D} {ns : List Bool} (s : Same Z H) (h : RrL K H Z xs [.list ds]) (e : blsOf ds = some ns) : ∃ a, xs = [.ref a] ∧ SqL K H a (ns.map V.bl) := by
  obtain ⟨v, rfl, r⟩ := one_inv h
  obtain ⟨a, vs, rfl, h1, r1⟩ := r.lst s
  rw [blsOf_map e] at r1
  exact ⟨a, rfl, by rw [← dpA_bls r1]; exact SqL.of h1⟩
theorem s_sum : SoundN K (rSum K) sumF := by
  intro H Z xs ds o Q s h e q
  unfold sumF at e
  split at e
  · rename_i es
    cases e1 : intsOf es with
    | none => rw [e1] at e; cases e
    | some ns => rw [e1] at e; cases e; obtain ⟨a, rfl, h1⟩ := lints s h e1; exact ⟨a, ns, rfl, h1, q _ (.int _)⟩
  · cases e
theorem s_all : SoundN K (rAll K) allF := by
  intro H Z xs ds o Q s h e q
  unfold allF at e
  split at e
  · rename_i es
    cases e1 : blsOf es with
    | none => rw [e1] at e; cases e
    | some ns => rw [e1] at e; cases e; obtain ⟨a, rfl, h1⟩ := lbls s h e1; exact ⟨a, ns, rfl, h1, q _ (.bl _)⟩
  · cases e
theorem s_any : SoundN K (rAny K) anyF := by
  intro H Z xs ds o Q s h e q
  unfold anyF at e
  split at e
  · rename_i es
    cases e1 : blsOf es with
    | none => rw [e1] at e; cases e
    | some ns => rw [e1] at e; cases e; obtain ⟨a, rfl, h1⟩ := lbls s h e1; exact ⟨a, ns, rfl, h1, q _ (.bl _)⟩
  · cases e
theorem foldmax : ∀ (r : List Int) (x : Int), (r.foldl (fun a b => if b > a then b else a) x ∈ x :: r) ∧ ∀ y ∈ x :: r, y ≤ r.foldl (fun a b => if b > a then b else a) x
  | [], x => ⟨by simp, fun y hy => by simp at hy; rw [hy]; exact Int.le_refl _⟩
  | z :: r, x => by
    obtain ⟨h1, h2⟩ := foldmax r (if z > x then z else x)
    rw [List.foldl_cons]
    refine ⟨?_, fun y hy => ?_⟩
    · rcases List.mem_cons.mp h1 with h | h
      · rw [h]; by_cases hz : z > x
        · rw [if_pos hz]; simp
        · rw [if_neg hz]; simp
      · exact List.mem_cons_of_mem _ (List.mem_cons_of_mem _ h)
    · have hx := h2 _ List.mem_cons_self
      rcases List.mem_cons.mp hy with rfl | hy
      · refine Int.le_trans ?_ hx; by_cases hz : z > y <;> simp [hz] <;> omega
      · rcases List.mem_cons.mp hy with rfl | hy
        · refine Int.le_trans ?_ hx; by_cases hz : y > x <;> simp [hz] <;> omega
        · exact h2 y (List.mem_cons_of_mem _ hy)
theorem foldmin : ∀ (r : List Int) (x : Int), (r.foldl (fun a b => if b < a then b else a) x ∈ x :: r) ∧ ∀ y ∈ x :: r, r.foldl (fun a b => if b < a then b else a) x ≤ y
  | [], x => ⟨by simp, fun y hy => by simp at hy; rw [hy]; exact Int.le_refl _⟩
  | z :: r, x => by
    obtain ⟨h1, h2⟩ := foldmin r (if z < x then z else x)
    rw [List.foldl_cons]
    refine ⟨?_, fun y hy => ?_⟩
    · rcases List.mem_cons.mp h1 with h | h
      · rw [h]; by_cases hz : z < x
        · rw [if_pos hz]; simp
        · rw [if_neg hz]; simp
      · exact List.mem_cons_of_mem _ (List.mem_cons_of_mem _ h)
    · have hx := h2 _ List.mem_cons_self
      rcases List.mem_cons.mp hy with rfl | hy
      · refine Int.le_trans hx ?_; by_cases hz : z < y <;> simp [hz] <;> omega
      · rcases List.mem_cons.mp hy with rfl | hy
        · refine Int.le_trans hx ?_; by_cases hz : y < x <;> simp [hz] <;> omega
        · exact h2 y (List.mem_cons_of_mem _ hy)
theorem s_maxL : SoundN K (rMax K) maxLF := by
  intro H Z xs ds o Q s h e q
  unfold maxLF at e
  split at e
  · rename_i es
    cases e1 : intsOf es with
    | none => rw [e1] at e; cases e
    | some ns =>
      rw [e1] at e
      obtain ⟨hb, e⟩ := gd_some e; cases e
      obtain ⟨a, rfl, h1⟩ := lints s h e1
      cases ns with
      | nil => cases hb
      | cons x r =>
        refine ⟨a, _, rfl, h1, Nat.zero_lt_succ _, fun m hm hle => ?_⟩
        obtain ⟨k1, k2⟩ := foldmax r x
        have : m = maxL (x :: r) := Int.le_antisymm (k2 m hm) (hle _ k1)
        rw [this]; exact q _ (.int _)
  · cases e
theorem s_minL : SoundN K (rMin K) minLF := by
  intro H Z xs ds o Q s h e q
  unfold minLF at e
  split at e
  · rename_i es
    cases e1 : intsOf es with
    | none => rw [e1] at e; cases e
    | some ns =>
      rw [e1] at e
      obtain ⟨hb, e⟩ := gd_some e; cases e
      obtain ⟨a, rfl, h1⟩ := lints s h e1
      cases ns with
      | nil => cases hb
      | cons x r =>
        refine ⟨a, _, rfl, h1, Nat.zero_lt_succ _, fun m hm hle => ?_⟩
        obtain ⟨k1, k2⟩ := foldmin r x
        have : m = minL (x :: r) := Int.le_antisymm (hle _ k1) (k2 m hm)
        rw [this]; exact q _ (.int _)
  · cases e
theorem s_list : SoundN K (fun xs H Q => ∃ p ys, xs = [.ref p] ∧ (SqL K H p ys ∨ SqT K H p ys) ∧ ∀ l, H l = none → Q (.ref l) (upd H l (.lst ys))) listF := by
  intro H Z xs ds o Q s h e q
  unfold listF at e
  split at e
  · cases e; obtain ⟨v, rfl, r⟩ := one_inv h; obtain ⟨a, vs, rfl, h1, r1⟩ := r.lst s; exact ⟨a, vs, rfl, .inl (SqL.of h1), fun l hl => q l vs hl r1⟩
  · cases e; obtain ⟨v, rfl, r⟩ := one_inv h; obtain ⟨a, vs, rfl, h1, r1⟩ := r.tup s; exact ⟨a, vs, rfl, .inr h1, fun l hl => q l vs hl r1⟩
  · cases e
theorem s_tuple : SoundN K (fun xs H Q => ∃ p ys, xs = [.ref p] ∧ ((SqL K H p ys ∧ ∀ l, H l = none → Q (.ref l) (upd H l (.tup ys))) ∨ (SqT K H p ys ∧ Q (.ref p) H))) tupleF := by
  intro H Z xs ds o Q s h e q
  unfold tupleF at e
  split at e
  · cases e; obtain ⟨v, rfl, r⟩ := one_inv h; obtain ⟨a, vs, rfl, h1, r1⟩ := r.lst s; exact ⟨a, vs, rfl, .inl ⟨SqL.of h1, fun l hl => q.2 l vs hl r1⟩⟩
  · cases e; obtain ⟨v, rfl, r⟩ := one_inv h; obtain ⟨a, vs, e2, h1, r1⟩ := r.tup s; exact ⟨a, vs, by rw [e2], .inr ⟨h1, by rw [← e2]; exact q _ r.tupz⟩⟩
  · cases e
theorem insI_perm (x : Int) : ∀ r : List Int, (insI x r).Perm (x :: r)
  | [] => .refl _
  | y :: r => by
    unfold insI
    by_cases h : x ≤ y
    · rw [if_pos h]
    · rw [if_neg h]; exact ((insI_perm x r).cons y).trans (List.Perm.swap x y r)
theorem insI_sorted (x : Int) : ∀ {r : List Int}, r.Pairwise (· ≤ ·) → (insI x r).Pairwise (· ≤ ·)
  | [], _ => by simp [insI]
  | y :: r, h => by
    unfold insI
    obtain ⟨h1, h2⟩ := List.pairwise_cons.mp h
    by_cases hx : x ≤ y
    · rw [if_pos hx]
      refine List.pairwise_cons.mpr ⟨fun z hz => ?_, h⟩
      rcases List.mem_cons.mp hz with rfl | hz
      · exact hx
      · exact Int.le_trans hx (h1 z hz)
    · rw [if_neg hx]
      refine List.pairwise_cons.mpr ⟨fun z hz => ?_, insI_sorted x h2⟩
      rcases List.mem_cons.mp ((insI_perm x r).mem_iff.mp hz) with rfl | hz
      · omega
      · exact h1 z hz
theorem isortI_perm : ∀ r : List Int, (isortI r).Perm r
  | [] => .refl _
  | x :: r => (insI_perm x _).trans ((isortI_perm r).cons x)
theorem isortI_sorted : ∀ r : List Int, (isortI r).Pairwise (· ≤ ·)
  | [] => .nil
  | x :: r => insI_sorted x (isortI_sorted r)
theorem eq_sorted {a b : List Int} (hp : a.Perm b) (ha : a.Pairwise (· ≤ ·)) (hb : b.Pairwise (· ≤ ·)) : a = b :=
  hp.eq_of_pairwise (fun x y _ _ h1 h2 => Int.le_antisymm h1 h2) ha hb
theorem s_sorted : SoundN K (rSortedI K) sortedF := by
  intro H Z xs ds o Q s h e q
  unfold sortedF at e
  split at e
  · rename_i es
    cases e1 : intsOf es with
    | none => rw [e1] at e; cases e
    | some ns =>
      rw [e1] at e; cases e
      obtain ⟨a, rfl, h1⟩ := lints s h e1
      refine ⟨a, ns, rfl, h1, fun ns' p hp hs hn => ?_⟩
      have : ns' = isortI ns := eq_sorted (hp.trans (isortI_perm ns).symm) hs (isortI_sorted ns)
      rw [this]
      exact q p _ hn (dpA_of_ints _)
  · cases e
end
end Mw
namespace Mw
open PySem L2

/-! ## is None, is True -/
def isNF (d : D) : Option Out := vB (isNon d)
def noNF (d : D) : Option Out := vB (!isNon d)
theorem rr_non {K : PySem.W.Frag} {H Z : Hp} {v : V} {d : D} (h : Rr K H Z v d) : decide (v = .non) = isNon d := by
  cases h with
  | z h => cases h <;> rfl
  | l h r => rfl
theorem rr_bl {K : PySem.W.Frag} {H Z : Hp} {v : V} {d : D} {b : Bool} (h : Rr K H Z v d) : decide (v = .bl b) = isBl b d := by
  cases h with
  | z h => cases h <;> first | rfl | (rename_i c; cases b <;> cases c <;> rfl)
  | l h r => rfl
section
variable {X : Cx} {P : Pa} {W : WX} {e a b c : Expr} {pos pos' : Pos}
theorem me_isN {j} {da : SM EV} (ha : PE X a (TEo P W da)) : PE X (.Compare a [.Is] [.Constant .none j pos'] pos) (TEo P W (op1 isNF da)) :=
  peW (pe_cmp (pc_isN ha)) fun σ H Q ⟨c, g, Z, R, p⟩ => TEo.on R p fun x g1 v H1 Z1 s1 R1 vx p1 =>
    app1_ok (r := fun x H Q => Q (.bl (decide (x = .non))) H) (fun H Z x d o Q s h e q => by cases e; rw [rr_non h]; exact q _ (.bl _)) R1 vx p1 fun o q => out_fin R1 s1 q
theorem me_noN {j} {da : SM EV} (ha : PE X a (TEo P W da)) : PE X (.Compare a [.IsNot] [.Constant .none j pos'] pos) (TEo P W (op1 noNF da)) :=
  peW (pe_cmp (pc_notN ha)) fun σ H Q ⟨c, g, Z, R, p⟩ => TEo.on R p fun x g1 v H1 Z1 s1 R1 vx p1 =>
    app1_ok (r := fun x H Q => Q (.bl (!decide (x = .non))) H) (fun H Z x d o Q s h e q => by cases e; rw [rr_non h]; exact q _ (.bl _)) R1 vx p1 fun o q => out_fin R1 s1 q
theorem op_isB : OpR X (compareOp .Is) (fun x y H Q => ∃ b, y = .bl b ∧ Q (.bl (decide (x = .bl b))) H) := by
  intro pins s σ H x y v u Q I rx ry h
  obtain ⟨b, rfl, q⟩ := h
  cases (show u = Value.bool b from ry)
  cases x with
  | bl k =>
    cases (show v = Value.bool k from rx)
    exact PySem.wpAny_pure ⟨.bl _, H, I, by
      show Value.bool (Value.bool k == Value.bool b) = Value.bool (decide (V.bl k = V.bl b))
      cases k <;> cases b <;> rfl, q⟩
  | non => cases (show v = Value.none from rx); exact PySem.wpAny_pure ⟨.bl _, H, I, rfl, q⟩
  | int i => obtain ⟨t, rfl⟩ := rx; exact PySem.wpAny_pure ⟨.bl _, H, I, rfl, q⟩
  | str i => obtain ⟨t, rfl⟩ := rx; exact PySem.wpAny_pure ⟨.bl _, H, I, rfl, q⟩
  | byt i => obtain ⟨t, rfl⟩ := rx; exact PySem.wpAny_pure ⟨.bl _, H, I, rfl, q⟩
  | flt i => obtain ⟨t, rfl⟩ := rx; exact PySem.wpAny_pure ⟨.bl _, H, I, rfl, q⟩
  | ref i => cases (show v = Value.ref i from rx); exact PySem.wpAny_pure ⟨.bl _, H, I, rfl, q⟩
  | ty i => cases (show v = Value.type i from rx); exact PySem.wpAny_pure ⟨.bl _, H, I, rfl, q⟩
def isBD : D → D → Option Out
  | d, .bool b => vB (isBl b d)
  | _, _ => none
theorem s_isB {K : PySem.W.Frag} : Sound2 K (fun x y H Q => ∃ b, y = .bl b ∧ Q (.bl (decide (x = .bl b))) H) isBD := by
  intro H Z x y d e o Q s hx hy h q
  unfold isBD at h
  split at h
  · cases h; exact ⟨_, hy.bl, by rw [rr_bl hx]; exact q _ (.bl _)⟩
  · cases h

/-! ## chains -/
def chE (f f' : D → D → Option Out) (da db dc : SM EV) : SM EV := onE da fun x => onE db fun y => bnd (tstE (app2 f x y)) fun k => if k then onE dc fun z => app2 f' y z else ret (.fro (.bool false))
theorem tst_app2 {β : Type} {f : D → D → Option Out} {x y : EV} {g : List Sl} {k : Bool → SM β} {ok : β → List Sl → Prop} {ex : Nat → Str → D → List Sl → Prop} (p : Post ok ex (bnd (tstE (app2 f x y)) k g)) :
    ∃ d e b, look g x = some d ∧ look g y = some e ∧ f d e = some (.val (.bool b)) ∧ Post ok ex (k b g) := by
  have p1 := post_bnd.mp (post_bnd.mp p)
  unfold app2 at p1
  cases e1 : look g x with
  | none => rw [e1] at p1; exact p1.elim
  | some d =>
    cases e2 : look g y with
    | none => rw [e1, e2] at p1; exact p1.elim
    | some e =>
      rw [e1, e2] at p1
      simp only [Option.bind_some] at p1
      cases e3 : f d e with
      | none => rw [e3] at p1; exact p1.elim
      | some o =>
        rw [e3] at p1
        cases o with
        | tupN ds => exact p1.elim
        | lstN ds => exact p1.elim
        | val r =>
          cases r with
          | bool b => exact ⟨d, e, b, rfl, rfl, e3, p1⟩
          | none => exact p1.elim
          | int _ => exact p1.elim
          | str _ => exact p1.elim
          | list _ => exact p1.elim
          | tuple _ => exact p1.elim
          | dict _ => exact p1.elim
theorem ch_on {r r' : R2} {f f' : D → D → Option Out} {da db dc : SM EV} (so : Sound2 P.K r f) (so' : Sound2 P.K r' f') : ∀ σ H Q, TEo P W (chE f f' da db dc) σ H Q → tChain r r' (TEo P W da) (TEo P W db) (TEo P W dc) σ H Q :=
  fun σ H Q ⟨c, g, Z, R, p⟩ => TEo.on R p fun x g1 v H1 Z1 s1 R1 vx p1 => TEo.on R1 p1 fun y g2 w H2 Z2 s2 R2 vy p2 => by
    obtain ⟨d, e, b, e1, e2, e3, p3⟩ := tst_app2 p2
    refine so H2 Z2 v w d e _ _ R2.sub ((vx.mono s2).rr R2 e1) (vy.rr R2 e2) e3 fun u ru => ?_
    cases ru
    refine ⟨b, rfl, ?_⟩
    cases b with
    | false => exact iteF (p3 _ H2 Z2 (s1.trans s2) R2 (.bl false))
    | true =>
      refine iteT (TEo.on R2 p3 fun z g3 u H3 Z3 s3 R3 vz p4 => ?_)
      exact app2_ok so' R3 ((vy.mono s3)) vz p4 fun o q => out_fin R3 ((s1.trans s2).trans s3) q
theorem me_ch {op op' : CmpOp} {r r' : R2} {f f' : D → D → Option Out} {da db dc : SM EV} (ho : OpR X (compareOp op) r) (ho' : OpR X (compareOp op') r') (so : Sound2 P.K r f) (so' : Sound2 P.K r' f') (ha : PE X a (TEo P W da)) (hb : PE X b (TEo P W db)) (hc : PE X c (TEo P W dc))
    (hm : lastMarks [op, op'] [b, c] = false := by with_unfolding_all rfl) : PE X (.Compare a [op, op'] [b, c] pos) (TEo P W (chE f f' da db dc)) := peW (pe_chain ho ho' ha hb hc hm) (ch_on so so')
theorem mt_ch {op op' : CmpOp} {r r' : R2} {f f' : D → D → Option Out} {da db dc : SM EV} (ho : OpR X (compareOp op) r) (ho' : OpR X (compareOp op') r') (so : Sound2 P.K r f) (so' : Sound2 P.K r' f') (ha : PE X a (TEo P W da)) (hb : PE X b (TEo P W db)) (hc : PE X c (TEo P W dc))
    (hm : lastMarks [op, op'] [b, c] = false := by with_unfolding_all rfl) : PT X (.Compare a [op, op'] [b, c] pos) (TTo P W (tstE (chE f f' da db dc))) :=
  ptW (pt_chain ho ho' ha hb hc hm) fun σ H Q ⟨c, g, Z, R, p⟩ => ch_on so so' σ H _ (by
    refine ⟨c, g, Z, R, post_mono (post_bnd.mp p) (fun ev g1 q v H1 Z1 s1 R1 vr => ?_) fun _ _ _ _ q => q⟩
    cases ev with
    | fro d =>
      cases d with
      | bool k => cases vr; exact ⟨k, rfl, q H1 Z1 s1 R1⟩
      | none => exact q.elim
      | int _ => exact q.elim
      | str _ => exact q.elim
      | list _ => exact q.elim
      | tuple _ => exact q.elim
      | dict _ => exact q.elim
    | own ds => exact q.elim
    | var i =>
      obtain ⟨Z2, s2, R2, vp⟩ := VR.frz R1 vr
      have q : Post (fun b g' => ∀ H' Z', Same Z Z' → Rel P c g' σ H' Z' → Q b H') (exK P c σ W) (match look g1 (.var i) with
        | some (.bool b) => Res.ok (b, g1)
        | _ => .stuck) := q
      cases e1 : look g1 (.var i) with
      | none => rw [e1] at q; exact q.elim
      | some d =>
        rw [e1] at q
        have rr := vp.rr R2 e1
        cases d with
        | bool k => exact ⟨k, rr.bl, q H1 Z1 s1 R1⟩
        | none => exact q.elim
        | int _ => exact q.elim
        | str _ => exact q.elim
        | list _ => exact q.elim
        | tuple _ => exact q.elim
        | dict _ => exact q.elim)

/-! ## slices -/
def TOo (P : Pa) (W : WX) (de : SM (Option Int)) : L2.TO := fun σ H Q => ∃ c g Z, Rel P c g σ H Z ∧ Post (fun o g' => ∀ H' Z', Same Z Z' → Rel P c g' σ H' Z' → Q o H') (exK P c σ W) (de g)
theorem poW {o : Option Expr} {t t' : L2.TO} (h : PO X o t) (w : ∀ σ H Q, t' σ H Q → t σ H Q) : PO X o t' := ⟨fun pins s σ H Q I q => h.run pins s σ H Q I (w σ H Q q)⟩
def partE (da : SM EV) : SM (Option Int) := onE da fun x => fun g => match look g x with
  | some (.int i) => .ok (some i, g)
  | _ => .stuck
theorem mo_none : PO X none (TOo P W (ret none)) := poW po_none fun σ H Q ⟨c, g, Z, R, p⟩ => p H Z (Same.refl _) R
theorem mo_some {da : SM EV} (h : PE X e (TEo P W da)) : PO X (some e) (TOo P W (partE da)) := poW (po_some h) fun σ H Q ⟨c, g, Z, R, p⟩ =>
  TEo.on R p fun x g1 v H1 Z1 s1 R1 vx p1 => by
    cases e1 : look g1 x with
    | none => rw [e1] at p1; exact p1.elim
    | some d =>
      rw [e1] at p1
      have rr := vx.rr R1 e1
      cases d with
      | int i => exact ⟨i, rr.int, p1 H1 Z1 s1 R1⟩
      | none => exact p1.elim
      | bool _ => exact p1.elim
      | str _ => exact p1.elim
      | list _ => exact p1.elim
      | tuple _ => exact p1.elim
      | dict _ => exact p1.elim
def cutL {α : Type} (xs : List α) (lo hi : Option Int) : List α := (xs.drop (HT.sIx xs.length 0 lo)).take (HT.sIx xs.length xs.length hi - HT.sIx xs.length 0 lo)
def slF (lo hi : Option Int) : D → Option Out
  | .list ds => some (.lstN (cutL ds lo hi))
  | .tuple ds => some (.tupN (cutL ds lo hi))
  | .str z => gd (decide (z.length ≤ SZ)) (some (.val (.str (cutS z lo hi))))
  | _ => none
def slE (da : SM EV) (lo hi : SM (Option Int)) : SM EV := onE da fun x => bnd lo fun l => bnd hi fun h => app1 (slF l h) x
def rSlX (K : PySem.W.Frag) : V → Option Int → Option Int → Hp → VK → Prop := fun x lo hi H Q => rSlL K x lo hi H Q ∨ rSlA K x lo hi H Q ∨ rSlS x lo hi H Q
theorem sl_any : SlR X (rSlX X.K) := SlR.or sl_list (SlR.or sl_tupA sl_str)
theorem s_sl {K : PySem.W.Frag} {lo hi : Option Int} : Sound1 K (fun x H Q => rSlX K x lo hi H Q) (slF lo hi) := by
  intro H Z x d o Q s hx h q
  have cut : ∀ {vs : List V} {ds : List D}, DqAll K Z vs ds → DqAll K Z (cutV vs lo hi) (cutL ds lo hi) := fun {vs ds} r => by
    unfold cutV cutL
    rw [dpA_len r]
    exact dpA_take _ (dpA_drop _ r)
  cases d with
  | list ds =>
    cases h
    obtain ⟨a, vs, rfl, h1, r1⟩ := hx.lst s
    exact .inl ⟨a, vs, rfl, SqL.of h1, fun p hp => q p _ hp (cut r1)⟩
  | tuple ds =>
    cases h
    obtain ⟨a, vs, e, h1, r1⟩ := hx.tup s
    have hl := dpA_len r1
    refine .inr (.inl ⟨a, vs, e, h1, fun ⟨k1, k2⟩ => ?_, fun _ p hp => q.2 p _ hp (cut r1)⟩)
    have : cutL ds lo hi = ds := by
      unfold cutL
      rw [← hl, k1, k2, List.drop_zero, Nat.sub_zero, hl, List.take_length]
    rw [this] at q
    rw [← e]; exact q.1 _ hx.tupz
  | str z =>
    obtain ⟨hb, h⟩ := gd_some h; cases h
    exact .inr (.inr ⟨z, hx.str, by rw [← SZ_eq]; exact of_decide_eq_true hb, q _ (.str _)⟩)
  | none => cases h
  | bool _ => cases h
  | int _ => cases h
  | dict _ => cases h
theorem me_sl {p2 : Pos} {da : SM EV} {lo hi : Option Expr} {dl dh : SM (Option Int)} (hK : P.K = X.K) (ha : PE X a (TEo P W da)) (hl : PO X lo (TOo P W dl)) (hh : PO X hi (TOo P W dh)) : PE X (.Subscript a (.Slice lo hi none p2) pos) (TEo P W (slE da dl dh)) :=
  peW (pe_slice sl_any ha hl hh) fun σ H Q ⟨c, g, Z, R, p⟩ => TEo.on R p fun x g1 v H1 Z1 s1 R1 vx p1 => by
    refine ⟨c, g1, Z1, R1, post_mono (post_bnd.mp p1) (fun l g2 p2 H2 Z2 s2 R2 => ?_) fun _ _ _ _ q => q⟩
    refine ⟨c, g2, Z2, R2, post_mono (post_bnd.mp p2) (fun h g3 p3 H3 Z3 s3 R3 => ?_) fun _ _ _ _ q => q⟩
    rw [← hK]
    exact app1_ok (r := fun x H Q => rSlX P.K x l h H Q) s_sl R3 (vx.mono (s2.trans s3)) p3 fun o q => out_fin R3 ((s1.trans s2).trans s3) q
/-- e[::-1] of a list -/
def revF : D → Option Out
  | .list ds => some (.lstN ds.reverse)
  | _ => none
theorem me_rev {k : Nat} {p1 p2 p3 : Pos} {da : SM EV} (ha : PE X a (TEo P W da)) : PE X (.Subscript a (.Slice none none (some (.UnaryOp .USub (.Constant (.int 1) k p1) p2)) p3) pos) (TEo P W (op1 revF da)) :=
  peW (pe_revL ha) fun σ H Q ⟨c, g, Z, R, p⟩ => TEo.on R p fun x g1 v H1 Z1 s1 R1 vx p1 =>
    app1_ok (r := fun x H1 Q => ∃ a xs, x = .ref a ∧ SqL X.K H1 a xs ∧ ∀ p, H1 p = none → Q (.ref p) (upd H1 p (.lst xs.reverse))) (fun H Z x d o Q s h e q => by
      cases d with
      | list ds => cases e; obtain ⟨a, vs, rfl, h1, r1⟩ := h.lst s; exact ⟨a, vs, rfl, SqL.of h1, fun p hp => q p _ hp (dpA_rev r1)⟩
      | _ => cases e) R1 vx p1 fun o q => out_fin R1 s1 q
end

/-! ## methods that change a slot's list -/
/-- the list of a slot is rewritten -/
def slotL (i : Nat) (f : List D → Option (List D × D)) : SM EV := fun g => match g[i]? with
  | some (.own ds) => (match f ds with
    | some (ds', r) => .ok (.fro r, g.set i (.own ds'))
    | none => .stuck)
  | some (.bor ds) => (match f ds with
    | some (ds', r) => .ok (.fro r, g.set i (.bor ds'))
    | none => .stuck)
  | _ => .stuck
theorem slot_ok {P : Pa} {c : Ctx} {g : List Sl} {σ : St} {H Z : Hp} {i : Nat} {f : List D → Option (List D × D)} {v : V} {ok : EV → List Sl → Prop} {ex : Nat → Str → D → List Sl → Prop} (R : Rel P c g σ H Z) (h : σ[i]? = some (some v)) (p : Post ok ex (slotL i f g)) :
    ∃ a vs ds ds' r, v = .ref a ∧ H a = some (.lst vs) ∧ DqAll P.K Z vs ds ∧ f ds = some (ds', r) ∧ ∃ g', ok (.fro r) g' ∧ ∀ vs', DqAll P.K Z vs' ds' → Rel P c g' σ (upd H a (.lst vs')) Z := by
  unfold slotL at p
  cases es : g[i]? with
  | none => rw [es] at p; exact p.elim
  | some s =>
    rw [es] at p
    cases s with
    | un => exact p.elim
    | fro _ => exact p.elim
    | exc _ _ _ => exact p.elim
    | scr _ => exact p.elim
    | own ds =>
      obtain ⟨a, vs, e1, h1, h2, h3, r⟩ := R.sl i _ es
      rw [h] at e1; cases e1
      have p : Post ok ex (match f ds with
        | some (ds', r) => Res.ok (.fro r, g.set i (.own ds'))
        | none => .stuck) := p
      cases e : f ds with
      | none => rw [e] at p; exact p.elim
      | some x =>
        obtain ⟨ds', d⟩ := x
        rw [e] at p
        exact ⟨a, vs, ds, ds', d, rfl, h1, r, e, _, p, fun vs' r' => R.mutO es h r'⟩
    | bor ds =>
      obtain ⟨a, vs, e1, h1, h2, h3, r⟩ := R.sl i _ es
      rw [h] at e1; cases e1
      have p : Post ok ex (match f ds with
        | some (ds', r) => Res.ok (.fro r, g.set i (.bor ds'))
        | none => .stuck) := p
      cases e : f ds with
      | none => rw [e] at p; exact p.elim
      | some x =>
        obtain ⟨ds', d⟩ := x
        rw [e] at p
        exact ⟨a, vs, ds, ds', d, rfl, h1, r, e, _, p, fun vs' r' => R.mutB es h r'⟩
def popF (ds : List D) : Option (List D × D) := ds.getLast?.map fun d => (ds.dropLast, d)
def appF (d : D) (ds : List D) : Option (List D × D) := if ds.length < SZ then some (ds ++ [d], .none) else none
def setF (k : Int) (d : D) (ds : List D) : Option (List D × D) := (ixN ds.length k).map fun j => (ds.set j d, .none)
def popAtF (k : Int) (ds : List D) : Option (List D × D) := if -(2 ^ 63) ≤ k ∧ k < 2 ^ 63 then (seqIndex? k ds.length).bind fun j => ds[j]?.map fun d => (ds.eraseIdx j, d) else none
/-- the slot holds a list of its own, or the borrowed one -/
def muG (i : Nat) : SM Unit := fun g => match g[i]? with
  | some (.own _) => .ok ((), g)
  | some (.bor _) => .ok ((), g)
  | _ => .stuck
theorem muG_ok {P : Pa} {c : Ctx} {g : List Sl} {σ : St} {H Z : Hp} {i : Nat} {ok : Unit → List Sl → Prop} {ex : Nat → Str → D → List Sl → Prop} (R : Rel P c g σ H Z) (p : Post ok ex (muG i g)) : ∃ a vs, σ[i]? = some (some (.ref a)) ∧ H a = some (.lst vs) ∧ ok () g := by
  unfold muG at p
  cases es : g[i]? with
  | none => rw [es] at p; exact p.elim
  | some s =>
    rw [es] at p
    cases s with
    | own ds => obtain ⟨a, vs, e1, h1, _⟩ := R.sl i _ es; exact ⟨a, vs, e1, h1, p⟩
    | bor ds => obtain ⟨a, vs, e1, h1, _⟩ := R.sl i _ es; exact ⟨a, vs, e1, h1, p⟩
    | un => exact p.elim
    | fro _ => exact p.elim
    | exc _ _ _ => exact p.elim
    | scr _ => exact p.elim
/-- x.pop() of a name -/
def popE (i : Nat) : SM EV := bnd (muG i) fun _ => slotL i popF
/-- x.append(e) of a name -/
def apE (i : Nat) (da : SM EV) : SM EV := bnd (muG i) fun _ => onE da fun ev => bnd (esc ev) fun d => slotL i (appF d)
theorem dpA_dropLast {K : PySem.W.Frag} {H : Hp} : ∀ {ds : List D} {vs : List V}, DqAll K H vs ds → DqAll K H vs.dropLast ds.dropLast := fun {ds vs} h => by
  rw [List.dropLast_eq_take, List.dropLast_eq_take, dpA_len h]
  exact dpA_take _ h
section
variable {X : Cx} {P : Pa} {W : WX} {e a b : Expr} {pos pos' apos : Pos} {x : Str} {i : Nat}
theorem me_pop (hv : PE X a (tVar i)) (hbase : attributeBase a "pop" X.env (eval a X.env) = eval a X.env := by rfl) (hline : (apos.endLine == pos.line) = true := by rfl) : PE X (.Call (.Attribute a "pop" apos) [] [] pos) (TEo P W (popE i)) :=
  peW (pe_bm0 PySem.F.plainAttrs_list PySem.F.slot_list_pop PySem.F.type_list_pop mt_pop hv hbase hline) fun σ H Q ⟨c, g, Z, R, p⟩ => by
    obtain ⟨a0, vs0, hv, h0, p⟩ := muG_ok R (post_bnd.mp p)
    obtain ⟨a, vs, ds, ds', r, ea, h1, rr, e, g', q, Rn⟩ := slot_ok R hv p
    cases ea
    unfold popF at e
    cases el : ds.getLast? with
    | none => rw [el] at e; cases e
    | some d =>
      rw [el] at e; cases e
      have hl := dpA_len rr
      rw [List.getLast?_eq_getElem?, ← hl] at el
      obtain ⟨w, e2, r2⟩ := dpA_get rr el
      exact ⟨_, hv, .inl ⟨rfl, _, SqL.of h1⟩, _, vs, w, rfl, rfl, h1, e2, q w _ Z (Same.refl _) (Rn _ (dpA_dropLast rr)) r2⟩
theorem me_app {da : SM EV} (hv : PE X a (tVar i)) (he : PE X e (TEo P W da)) (hbase : attributeBase a "append" X.env (eval a X.env) = eval a X.env := by rfl)
    (hfew : ((backTo pos (starEach [e] X.env)).all (fun x => !x.1) && (backToKw pos (keywordEach [] X.env)).all (fun x => x.1.isSome)
      && decide (([e] : List Expr).length + ([] : List Keyword).length + (if ([] : List Keyword).isEmpty then 0 else 1) < 30)) = true := by rfl) (hline : (apos.endLine == pos.line) = true := by rfl)
    (hs : starEach [e] X.env = (false, eval e X.env) :: starEach [] X.env := by rfl) (hplain : (backTo pos (starEach [] X.env)).any (·.1) = false := by rfl) :
    PE X (.Call (.Attribute a "append" apos) [e] [] pos) (TEo P W (apE i da)) :=
  peW (pe_bm PySem.F.plainAttrs_list PySem.F.slot_list_append PySem.F.type_list_append mt_append hv (pa_cons he pa_nil hs) hbase hfew hline hs hplain) fun σ H Q ⟨c, g, Z, R, p⟩ => by
    obtain ⟨a0, vs0, hv, h0, p⟩ := muG_ok R (post_bnd.mp p)
    refine ⟨_, hv, .inl ⟨rfl, _, SqL.of h0⟩, ?_⟩
    refine TEo.on R p fun ev g1 v H1 Z1 s1 R1 vp p1 => ?_
    obtain ⟨d, g2, Z2, s2, R2, r2, p2⟩ := esc_ok R1 vp (post_bnd.mp p1)
    obtain ⟨a, vs, ds, ds', r, ea, h1, rr, e, g', q, Rn⟩ := slot_ok R2 hv p2
    cases ea
    unfold appF at e
    by_cases hl : ds.length < SZ
    · rw [if_pos hl] at e; cases e
      exact ⟨_, vs, v, rfl, rfl, h1, by rw [dpA_len rr, ← SZ_eq]; exact hl, q .non _ Z2 (s1.trans s2) (Rn _ (dpA_app rr (.cons r2 .nil))) .non⟩
    · rw [if_neg hl] at e; cases e
/-- x[k] = e, x a name -/
def setK (i : Nat) (d : D) (y : EV) : SM Fl := fun g => match look g y with
  | some (.int k) => bnd (slotL i (setF k d)) (fun _ => ret .nx) g
  | _ => .stuck
def ixS (i : Nat) (dk da : SM EV) : SM Fl := onE da fun ev => bnd (esc ev) fun d => bnd (muG i) fun _ => onE dk (setK i d)
theorem ms_ix {dk da : SM EV} {kx : Expr} {tpos : Pos} (h : PS X (.Assign [.Subscript a kx tpos] e pos) (tAsg (TEo P W da) (gSub (tVar i) (TEo P W dk) rSetL))) :
    PS X (.Assign [.Subscript a kx tpos] e pos) (TSo P W (ixS i dk da)) := psW h fun Dd σ H ⟨c, g, Z, R, p⟩ => by
  refine TEo.onS (k := fun ev => bnd (esc (frz ev)) fun d => bnd (muG i) fun _ => onE dk (setK i d)) R p fun ev g1 v H1 Z1 s1 R1 vr1 p1 => ?_
  obtain ⟨Z1', s1', R1', vp⟩ := vr1.frz R1
  obtain ⟨d, g2, Z2, s2, R2, r2, p2⟩ := esc_ok R1' vp (post_bnd.mp p1)
  obtain ⟨a0, vs0, hv, h0, p3⟩ := muG_ok R2 (post_bnd.mp p2)
  refine ⟨_, hv, ?_⟩
  refine TEo.onS (k := fun ev => setK i d (frz ev)) R2 p3 fun ev4 g4 v4 H4 Z4 s4 R4 vr4 p4 => ?_
  obtain ⟨Z5, s5, R5, vp5⟩ := vr4.frz R4
  unfold setK at p4
  cases e1 : look g4 (frz ev4) with
  | none => rw [e1] at p4; exact p4.elim
  | some dk' =>
    rw [e1] at p4
    have rr := vp5.rr R5 e1
    cases dk' with
    | int k =>
      obtain ⟨a1, vs, ds, ds', r, ea, h1, rl, ef, g', q, Rn⟩ := slot_ok R5 hv (post_bnd.mp p4)
      cases ea
      unfold setF at ef
      cases ej : ixN ds.length k with
      | none => rw [ej] at ef; cases ef
      | some j =>
        rw [ej] at ef; cases ef
        exact ⟨_, vs, k, j, rfl, rr.int, h1, by rw [dpA_len rl]; exact ej, q σ _ Z5 (((s1.trans s1').trans s2).trans (s4.trans s5)) (Rn _ (dpA_set (dpM (s4.trans s5) r2) j rl))⟩
    | none => exact p4.elim
    | bool _ => exact p4.elim
    | str _ => exact p4.elim
    | list _ => exact p4.elim
    | tuple _ => exact p4.elim
    | dict _ => exact p4.elim
/-! ## x op= e of ints; several names at once -/
def augS (i : Nat) (f : D → D → Option Out) (da : SM EV) : SM Fl := bnd (vr i) fun x => match x with
  | .fro d => onE da fun y => bnd (app2 f (.fro d) y) fun ev => bnd (mvE ev) fun s => setS i s
  | _ => fun _ => .stuck
theorem ms_aug {op : Operator} {f : D → D → Option Out} {ti : TIp} {da : SM EV} {tpos : Pos} (so : Sound2 P.K ti f) (h : PS X (.AugAssign (.Name x tpos) op e pos) (tAug i (TEo P W da) ti)) : PS X (.AugAssign (.Name x tpos) op e pos) (TSo P W (augS i f da)) :=
  psW h fun Dd σ H ⟨c, g, Z, R, p⟩ => by
    have p1 := post_bnd.mp p
    unfold vr at p1
    cases es : g[i]? with
    | none => rw [es] at p1; exact p1.elim
    | some s =>
      rw [es] at p1
      cases s with
      | own _ => exact p1.elim
      | bor _ => exact p1.elim
      | un => exact p1.elim
      | exc _ _ _ => exact p1.elim
      | scr _ => exact p1.elim
      | fro d =>
        obtain ⟨v, e1, r⟩ := R.sl i _ es
        refine ⟨v, e1, ?_⟩
        refine TEo.onS (k := fun ev => bnd (app2 f (.fro d) (frz ev)) fun ev => bnd (mvE ev) fun s => setS i s) R p1 fun ev g1 w H1 Z1 s1 R1 vr1 p2 => ?_
        obtain ⟨Z2, s2, R2, vp⟩ := vr1.frz R1
        have vx : VP P σ Z2 v (.fro d) := dpM (s1.trans s2) r
        exact app2_ok so R2 vx vp (post_bnd.mp p2) fun o q => out_fin R2 (s1.trans s2) fun u H3 Z3 s3 R3 vr3 => asg_ok R3 s3 vr3 q
/-! ### several names at once: the values first, then the names from the left; a fresh list stays the name's own -/
def isOE : EV → Bool
  | .own _ => true
  | _ => false
inductive VRL (P : Pa) (c : Ctx) (g : List Sl) (σ : St) (H Z : Hp) : List V → List EV → Prop
  | nil : VRL P c g σ H Z [] []
  | cons {v : V} {vs : List V} {e : EV} {es : List EV} (h : VR P c g σ H Z v e) (hd : isOE e = true → ∀ (j : Nat) (w : V) (f : EV), vs[j]? = some w → es[j]? = some f → isOE f = true → w ≠ v) (r : VRL P c g σ H Z vs es) : VRL P c g σ H Z (v :: vs) (e :: es)
def TAw (P : Pa) (W : WX) (de : SM (List EV)) : TA := fun σ H Q => ∃ c g Z, Rel P c g σ H Z ∧
  Post (fun evs g' => ∀ vs H' Z', Same Z Z' → Rel P c g' σ H' Z' → VRL P c g' σ H' Z' vs evs → Q vs H') (exK P c σ W) (de g)
def argsW (da : SM EV) (dr : SM (List EV)) : SM (List EV) := bnd da fun x => bnd dr fun xs => ret (x :: xs)
theorem maw_nil : PA X [] (TAw P W argsNil) := paW pa_nil fun σ H Q ⟨c, g, Z, R, p⟩ => p [] H Z (Same.refl _) R .nil
theorem vr_keep {c : Ctx} {g g' : List Sl} {σ : St} {H H' Z Z' : Hp} {v : V} {e : EV} (s : Same Z Z') (he : isOE e = false) (h : VR P c g σ H Z v e) : VR P c g' σ H' Z' v e := by
  cases e with
  | fro d => exact dpM s h
  | own ds => cases he
  | var i => exact h
theorem vrl_unhold {c : Ctx} {g : List Sl} {σ : St} {H Z : Hp} {a : Addr} {x : HO} (h0 : c.H0 a = none) : ∀ {vs : List V} {es : List EV}, VRL P (c.hold a x) g σ H Z vs es → VRL P c g σ H Z vs es ∧ ∀ (j : Nat) (w : V) (f : EV), vs[j]? = some w → es[j]? = some f → isOE f = true → w ≠ .ref a
  | _, _, .nil => ⟨.nil, fun j w f e => by simp at e⟩
  | _, _, .cons (v := v) (vs := vs) (e := e) (es := es) h hd r => by
    obtain ⟨r', n'⟩ := vrl_unhold h0 r
    have key : VR P c g σ H Z v e ∧ (isOE e = true → v ≠ .ref a) := by
      cases e with
      | fro d => exact ⟨h, fun z => nomatch z⟩
      | var i => exact ⟨h, fun z => nomatch z⟩
      | own ds =>
        obtain ⟨b, ws, rfl, h1, h2, h3, r3, hn⟩ := h
        have ne : b ≠ a := fun z => by
          rw [z] at h3
          have : (c.hold a x).H0 a = some x := if_pos rfl
          rw [this] at h3; cases h3
        rw [hold_ne ne] at h3
        exact ⟨⟨b, ws, rfl, h1, h2, h3, r3, hn⟩, fun _ z => ne (V.ref.inj z)⟩
    refine ⟨.cons key.1 hd r', fun j w f e1 e2 hf => ?_⟩
    cases j with
    | zero => cases e1; cases e2; exact key.2 hf
    | succ j => exact n' j w f (by simpa using e1) (by simpa using e2) hf
theorem maw_cons {es : List Expr} {da : SM EV} {dr : SM (List EV)} (ha : PE X e (TEo P W da)) (hr : PA X es (TAw P W dr)) (hs : starEach (e :: es) X.env = (false, eval e X.env) :: starEach es X.env := by rfl) : PA X (e :: es) (TAw P W (argsW da dr)) :=
  paW (pa_cons ha hr hs) fun σ H Q ⟨c, g, Z, R, p⟩ => by
    refine ⟨c, g, Z, R, post_mono (post_bnd.mp p) (fun ev g1 p1 v H1 Z1 s1 R1 vr1 => ?_) fun _ _ _ _ q => q⟩
    by_cases ho : isOE ev = true
    · cases ev with
      | fro d => cases ho
      | var i => cases ho
      | own ds =>
        obtain ⟨a, us, rfl, h1, h2, h3, r3, hn⟩ := vr1
        have hB := R1.noB h3
        refine ⟨c.hold a (.lst us), g1, Z1, R1.hold h1 h2 h3 hn, post_mono (post_bnd.mp p1) (fun evs g2 p2 ws H2 Z2 s2 R2 vrl => ?_) fun k f q g' ex dd u H' Z' ez rz R' => ex dd u H' Z' ez rz (R'.unhold h3 hB).1⟩
        obtain ⟨R3, k1, k2, k3⟩ := R2.unhold h3 hB
        obtain ⟨vrl', n'⟩ := vrl_unhold h3 vrl
        exact p2 _ H2 Z2 (s1.trans s2) R3 (.cons ⟨a, us, rfl, k1, k2, h3, dpAM s2 r3, k3⟩ (fun _ j w f e1 e2 hf => n' j w f e1 e2 hf) vrl')
    · have ho : isOE ev = false := by simpa using ho
      refine ⟨c, g1, Z1, R1, post_mono (post_bnd.mp p1) (fun evs g2 p2 ws H2 Z2 s2 R2 vrl => ?_) fun _ _ _ _ q => q⟩
      exact p2 _ H2 Z2 (s1.trans s2) R2 (.cons (vr_keep s2 ho vr1) (fun z => by rw [ho] at z; cases z) vrl)
def mvP : EV → SM Sl
  | .fro d => ret (.fro d)
  | .own ds => ret (.own ds)
  | .var j => fun g => match g[j]? with
    | some (.fro d) => .ok (.fro d, g)
    | _ => .stuck
def setsS : List Nat → List EV → SM Fl
  | [], [] => ret .nx
  | i :: is, e :: es => bnd (mvP e) fun s => bnd (setS i s) fun _ => setsS is es
  | _, _ => fun _ => .stuck
def varsIn : List EV → List Nat
  | [] => []
  | .var j :: es => j :: varsIn es
  | _ :: es => varsIn es
def parS (is : List Nat) (da : SM (List EV)) : SM Fl := bnd da fun evs => if is.all (fun i => !(varsIn evs).contains i) then setsS is evs else fun _ => .stuck
theorem varsIn_mem {j : Nat} : ∀ {es : List EV}, EV.var j ∈ es → j ∈ varsIn es
  | [], h => by cases h
  | e :: es, h => by
    rcases List.mem_cons.mp h with h | h
    · cases h; exact List.mem_cons_self
    · have := varsIn_mem h
      cases e with
      | var k => exact List.mem_cons_of_mem _ this
      | fro d => exact this
      | own d => exact this
theorem setS_post2 {c : Ctx} {i : Nat} {s : Sl} {g : List Sl} {σ : St} {H Z : Hp} {v : V} {ok : Fl → List Sl → Prop} {ex : Nat → Str → D → List Sl → Prop} (R : Rel P c g σ H Z) (ok' : SlOk P c H Z (some (some v)) s)
    (hd : isO (some s) = true → ∀ a, v = .ref a → ∀ j : Nat, isO g[j]? = true → σ[j]? ≠ some (some (.ref a))) (hb : ∀ ds, s ≠ .bor ds)
    (p : Post ok ex (setS i s g)) : ∃ g', Rel P c g' (σ.set i (some v)) H Z ∧ g' = g.set i s ∧ ok .nx g' := by
  unfold setS at p
  cases es : g[i]? with
  | none => rw [es] at p; exact p.elim
  | some t =>
    rw [es] at p
    have hi : i < σ.length := by rw [← R.len]; exact (List.getElem?_eq_some_iff.mp es).1
    have R' : Rel P c (g.set i s) (σ.set i (some v)) H Z := R.put hi ok' (fun h a e j _ hj => hd h a (Option.some.inj e) j hj) hb
    cases t with
    | bor ds => exact p.elim
    | un => exact ⟨_, R', rfl, p⟩
    | fro _ => exact ⟨_, R', rfl, p⟩
    | own _ => exact ⟨_, R', rfl, p⟩
    | exc _ _ _ => exact ⟨_, R', rfl, p⟩
    | scr _ => exact ⟨_, R', rfl, p⟩
/-- the rest of the values behind a store -/
theorem vrl_store {c : Ctx} {g : List Sl} {σ : St} {H Z : Hp} {i : Nat} {s : Sl} {v : V} {e : EV} (hs : isO (some s) = true → isOE e = true) :
    ∀ {us : List V} {fs : List EV}, VRL P c g σ H Z us fs → (∀ j, EV.var j ∈ fs → i ≠ j) → (isOE e = true → ∀ (k : Nat) (w : V) (f : EV), us[k]? = some w → fs[k]? = some f → isOE f = true → w ≠ v) → VRL P c (g.set i s) (σ.set i (some v)) H Z us fs
  | _, _, .nil, _, _ => .nil
  | _, _, .cons (v := w) (vs := ws) (e := f) (es := fs) hw hd' r, hj, hv => by
    refine .cons ?_ hd' (vrl_store hs r (fun j hm => hj j (List.mem_cons_of_mem _ hm)) fun ho k w' f' e1 e2 => hv ho (k + 1) w' f' (by simpa using e1) (by simpa using e2))
    cases f with
    | fro d' => exact hw
    | var j =>
      have ne := hj j List.mem_cons_self
      show (σ.set i (some v))[j]? = some (some w)
      rw [List.getElem?_set_ne ne]
      exact hw
    | own ds' =>
      obtain ⟨b, xs, rfl, q1, q2, q3, q4, q5⟩ := hw
      refine ⟨b, xs, rfl, q1, q2, q3, q4, fun k hk ek => ?_⟩
      cases e5 : (g.set i s)[k]? with
      | none => rw [e5] at hk; cases hk
      | some t =>
        rcases getE_set e5 with ⟨rfl, rfl⟩ | ⟨hne, e6⟩
        · rw [e5] at hk
          have il : k < σ.length := by
            have := (List.getElem?_eq_some_iff.mp ek).1
            simpa using this
          rw [List.getElem?_set_self il] at ek
          exact hv (hs hk) 0 _ _ rfl rfl rfl (Option.some.inj (Option.some.inj ek)).symm
        · rw [e5] at hk
          rw [List.getElem?_set_ne (Ne.symm hne)] at ek
          exact q5 k (by rw [e6]; exact hk) ek
theorem sets_ok {c : Ctx} {Dd : Ends} {Z0 : Hp} {ex : Nat → Str → D → List Sl → Prop} : ∀ {is : List Nat} {evs : List EV} {vs : List V} {g : List Sl} {σ : St} {H Z : Hp}, Rel P c g σ H Z → Same Z0 Z → VRL P c g σ H Z vs evs → (∀ i ∈ is, ∀ j, EV.var j ∈ evs → i ≠ j) →
    Post (fun fl g' => FlP P c Dd Z0 g' fl) ex (setsS is evs g) → vs.length = is.length ∧ Dd.nx (sets is vs σ) H
  | [], [], _, g, σ, H, Z, R, s0, h, hn, p => by cases h; exact ⟨rfl, p σ H Z s0 R⟩
  | [], _ :: _, _, g, σ, H, Z, R, s0, h, hn, p => p.elim
  | _ :: _, [], _, g, σ, H, Z, R, s0, h, hn, p => p.elim
  | i :: is, e :: es, _, g, σ, H, Z, R, s0, h, hn, p => by
    cases h with
    | @cons v vs _ _ h1 hd h2 =>
      have p1 := post_bnd.mp p
      -- the slot's new word
      have key : ∃ s : Sl, SlOk P c H Z (some (some v)) s ∧ (isO (some s) = true → isOE e = true ∧ ∀ a, v = .ref a → NoOwn g σ a) ∧ (∀ ds, s ≠ .bor ds) ∧ Post (fun fl g' => FlP P c Dd Z0 g' fl) ex (bnd (setS i s) (fun _ => setsS is es) g) := by
        cases e with
        | own ds =>
          obtain ⟨a, us, rfl, k1, k2, k3, k4, k5⟩ := h1
          exact ⟨.own ds, ⟨a, us, rfl, k1, k2, k3, k4⟩, fun _ => ⟨rfl, fun b eb => by cases eb; exact k5⟩, (fun _ z => nomatch z), p1⟩
        | fro d => exact ⟨.fro d, ⟨v, rfl, h1⟩, (fun z => nomatch z), (fun _ z => nomatch z), p1⟩
        | var j =>
          have h1 : σ[j]? = some (some v) := h1
          have p1 : Post (fun a g' => Post (fun fl g' => FlP P c Dd Z0 g' fl) ex (bnd (setS i a) (fun _ => setsS is es) g')) ex (match g[j]? with
            | some (.fro d) => Res.ok (Sl.fro d, g)
            | _ => .stuck) := p1
          cases es1 : g[j]? with
          | none => rw [es1] at p1; exact p1.elim
          | some t =>
            rw [es1] at p1
            cases t with
            | fro d =>
              obtain ⟨w, e1, r⟩ := R.sl j _ es1
              rw [h1] at e1; cases e1
              exact ⟨.fro d, ⟨v, rfl, r⟩, (fun z => nomatch z), (fun _ z => nomatch z), p1⟩
            | un => exact p1.elim
            | own _ => exact p1.elim
            | bor _ => exact p1.elim
            | exc _ _ _ => exact p1.elim
            | scr _ => exact p1.elim
      obtain ⟨s, k1, k2, k3, p2⟩ := key
      obtain ⟨g2, R2, p3⟩ := setS_post2 (v := v) R k1 (fun ho a ea j hj => (k2 ho).2 a ea j hj) k3 (post_bnd.mp p2)
      obtain ⟨hg, p3⟩ := p3
      subst hg
      obtain ⟨hl, q⟩ := sets_ok R2 s0 (vrl_store (e := e) (fun ho => (k2 ho).1) h2 (fun j hm => hn i List.mem_cons_self j (List.mem_cons_of_mem _ hm)) hd) (fun k hk j hm => hn k (List.mem_cons_of_mem _ hk) j (List.mem_cons_of_mem _ hm)) p3
      exact ⟨by rw [List.length_cons, List.length_cons, hl], q⟩
theorem par_on {is : List Nat} {da : SM (List EV)} : ∀ Dd σ H, TSo P W (parS is da) Dd σ H → TAw P W da σ H fun vs H1 => vs.length = is.length ∧ Dd.nx (sets is vs σ) H1 := fun Dd σ H ⟨c, g, Z, R, p⟩ => by
  refine ⟨c, g, Z, R, post_mono (post_bnd.mp p) (fun evs g1 p1 vs H1 Z1 s1 R1 vrl => ?_) fun _ _ _ _ q => exS_K q⟩
  by_cases hb : (is.all fun i => !(varsIn evs).contains i) = true
  · rw [if_pos hb] at p1
    refine sets_ok R1 s1 vrl (fun i hi j hj e => ?_) p1
    have := List.all_eq_true.mp hb i hi
    subst e
    have hm := varsIn_mem hj
    simp at this
    exact this hm
  · rw [if_neg hb] at p1; exact p1.elim
theorem ms_par2 {i j : Nat} {da : SM (List EV)} {st : Stmt} (h : PS X st (tPar i j (TAw P W da))) : PS X st (TSo P W (parS [i, j] da)) := psW h fun Dd σ H q => by
  obtain ⟨c, g, Z, R, p⟩ := par_on Dd σ H q
  exact ⟨c, g, Z, R, post_mono p (fun evs g1 p1 vs H1 Z1 s1 R1 vrl => by
    obtain ⟨hl, q⟩ := p1 vs H1 Z1 s1 R1 vrl
    match vs, hl, q with
    | [v, w], _, q => exact ⟨v, w, rfl, q⟩) fun _ _ _ _ q => q⟩
theorem ms_par3 {i j k : Nat} {da : SM (List EV)} {st : Stmt} (h : PS X st (tPar3 i j k (TAw P W da))) : PS X st (TSo P W (parS [i, j, k] da)) := psW h fun Dd σ H q => by
  obtain ⟨c, g, Z, R, p⟩ := par_on Dd σ H q
  exact ⟨c, g, Z, R, post_mono p (fun evs g1 p1 vs H1 Z1 s1 R1 vrl => by
    obtain ⟨hl, q⟩ := p1 vs H1 Z1 s1 R1 vrl
    match vs, hl, q with
    | [u, v, w], _, q => exact ⟨u, v, w, rfl, q⟩) fun _ _ _ _ q => q⟩
theorem vrl_new {c : Ctx} {g : List Sl} {σ : St} {H Z : Hp} {p : Addr} {o : HO} (hp : H p = none) : ∀ {vs : List V} {es : List EV}, VRL P c g σ H Z vs es → VRL P c g σ (upd H p o) Z vs es
  | _, _, .nil => .nil
  | _, _, .cons (e := e) h hd r => by
    refine .cons ?_ hd (vrl_new hp r)
    cases e with
    | fro d => exact h
    | var i => exact h
    | own ds =>
      obtain ⟨a, us, rfl, k1, k2, k3, k4, k5⟩ := h
      exact ⟨a, us, rfl, by rw [upd_ne (ne_of_none k1 hp)]; exact k1, k2, k3, k4, k5⟩
/-- .. by a tuple that is taken apart at once -/
theorem ms_parN {is : List Nat} {n : Nat} {da : SM (List EV)} {st : Stmt} (hn : is.length = n) (hz : is.length ≤ SZ) (h : PS X st (tAsg (tTup (TAw P W da)) (gTup P.K n (gNames is)))) : PS X st (TSo P W (parS is da)) := psW h fun Dd σ H ⟨c, g, Z, R, p⟩ => by
  refine ⟨c, g, Z, R, post_mono (post_bnd.mp p) (fun evs g1 p1 vs H1 Z1 s1 R1 vrl => ?_) fun _ _ _ _ q => exS_K q⟩
  by_cases hb : (is.all fun i => !(varsIn evs).contains i) = true
  · rw [if_pos hb] at p1
    have dj : ∀ i ∈ is, ∀ j, EV.var j ∈ evs → i ≠ j := fun i hi j hj e => by
      have := List.all_eq_true.mp hb i hi
      subst e
      have hm := varsIn_mem hj
      simp at this
      exact this hm
    have hl := (sets_ok R1 s1 vrl dj p1).1
    refine ⟨by rw [hl, ← SZ_eq]; exact hz, fun q hq => ?_⟩
    obtain ⟨_, fin⟩ := sets_ok (R1.newH (o := .tup vs) hq) s1 (vrl_new hq vrl) dj p1
    exact ⟨q, vs, rfl, SqT.of upd_same, hl.trans hn, gNames_ok hl fin⟩
  · rw [if_neg hb] at p1; exact p1.elim
end
end Mw
namespace Mw
open PySem L2

/-! ## a def of so many arguments -/
def fdN (n m : Nat) (body : SM Fl) : Fd := fun as => if as.length = n then fdD m body as else .stuck
theorem fdN_len {n m : Nat} {body : SM Fl} : ∀ as : List Sl, as.length ≠ n → fdN n m body as = .stuck := fun as h => if_neg h
theorem spD_N {K : PySem.W.Frag} {cA : Nat → Addr} {n m : Nat} {body : SM Fl} {vs : List V} {H : Hp} {Q : VK} {E : XK} (h : SpD K cA n (fdN n m body) vs H Q E) : SpD K cA n (fdD m body) vs H Q E := by
  obtain ⟨as, Z, B, h1, h2, h3, h4⟩ := spD_frp h
  refine frp_spD h1 h2 h3 ?_
  unfold fdN at h4
  rw [if_pos h1] at h4
  exact h4
theorem fn_okN {P : Program} {w : World} {K : PySem.W.Frag} {mg : Str → Option Value} {base : Heap} {cA : Nat → Addr} {x qual : Str} {st : Stmt} {f : Addr} {fd : FuncData} {N ps : List Str} {k : Nat} {body : SM Fl} (n m : Nat) (F : L2.Fun K x qual st f fd) (S : FnScope N ps (defScope st)) (hp : ps.length = n) (hN : N.length = n + m)
    (hb : ∀ (cdv : Value) (A : Around) (outer : List Env) (s : Shared) (H : Hp) (E : XK) (X : Cx), X = cxOf (L2.CX P w) P w K mg base N qual (defScope st) f cdv A outer s H E → Room k X.A →
      Takes X (fun cls d _ H => E cls d H) → PassesOwn (model X.prog X.w) X.A X.env X.xe → PSs (cxOf (L2.CX P w) P w K mg base N qual (defScope st) f cdv A outer s H E) (defBody st) (TSo ⟨K, cA, none⟩ (fun cls d _ H => E cls d H) body)) :
    FnOk P w K mg base (L2.CX P w) (k + 1) f fd ps (SpD K cA n (fdN n m body)) := by
  have := fn_ok (cA := cA) F S (by omega) hb
  rw [hp, show N.length - n = m by omega] at this
  exact this.imp fun vs H Q E h => spD_N h
theorem fn_none {P : Program} {w : World} {K : PySem.W.Frag} {mg : Str → Option Value} {base : Heap} {cA : Nat → Addr} {f : Addr} {fd : FuncData} {ps : List Str} {k : Nat} (n : Nat) : FnOk P w K mg base (L2.CX P w) k f fd ps (SpD K cA n fun _ => .stuck) where
  len := fun vs H Q E h => by obtain ⟨as, Z, B, h1, h2, h3, h4⟩ := h; exact h4.elim
  run := fun A outer s H args us vs Q E _ _ _ _ h => by obtain ⟨as, Z, B, h1, h2, h3, h4⟩ := h; exact h4.elim

/-! ## try -/
def cV (cA : Nat → Addr) : Nat → Value
  | 0 => .type "ValueError"
  | j => .ref (cA j)
def cleanS : Sl → Sl
  | .exc _ _ _ => .un
  | s => s
def cleanG (g : List Sl) : List Sl := g.map cleanS
def okFl : Fl → Bool
  | .rt (.var _) => false
  | _ => true
def offS (s : SM Fl) (cl : List Sl → List Sl) (g : List Sl) : Res (Fl × List Sl) := match s g with
  | .ok (fl, g') => if okFl fl then .ok (fl, cl g') else .stuck
  | _ => .stuck
abbrev Hdl := Nat × Option Nat × SM Fl
def excP (i : Nat) (k : Nat) (f : Str) (p : D) (s : SM Fl) : SM Fl := fun g => match g[i]? with
  | some (.bor _) => .stuck
  | some _ => offS s (fun g' => cleanG (g'.set i .un)) (g.set i (.exc k f p))
  | none => .stuck
def hand (sb : Nat → Nat → Bool) : List Hdl → Nat → Str → D → SM Fl
  | [], k, f, p => fun g => .exn k f p g
  | (c, none, s) :: r, k, f, p => if sb k c then offS s cleanG else hand sb r k f p
  | (c, some i, s) :: r, k, f, p => if sb k c then excP i k f p s else hand sb r k f p
def tryS (sb : Nat → Nat → Bool) (n : Nat) (b : SM Fl) (hs : List Hdl) : SM Fl := fun g => match b g with
  | .exn k f p g' => if 0 < k ∧ k < n then hand sb hs k f p g' else .stuck
  | .ok x => .ok x
  | .stuck => .stuck
theorem rel_in {P P' : Pa} {c : Ctx} {g : List Sl} {σ : St} {H Z : Hp} (hK : P'.K = P.K) (hx : P.xo = none) (R : Rel P c g σ H Z) : Rel P' c g σ H Z := by
  refine ⟨R.sub, R.zf, R.fr, R.bo, R.len, fun i s e => ?_, R.ds, R.b0⟩
  have q := R.sl i s e
  cases s with
  | un => trivial
  | fro d => obtain ⟨v, e1, r⟩ := q; exact ⟨v, e1, by rw [hK]; exact r⟩
  | own ds => obtain ⟨a, vs, e1, h1, h2, h3, r⟩ := q; exact ⟨a, vs, e1, h1, h2, h3, by rw [hK]; exact r⟩
  | bor ds => obtain ⟨a, vs, e1, h1, h2, h3, r⟩ := q; exact ⟨a, vs, e1, h1, h2, h3, by rw [hK]; exact r⟩
  | exc k f p => obtain ⟨a, dd, v, e1, _⟩ := q; rw [hx] at e1; cases e1
  | scr ns => obtain ⟨a, e1, r⟩ := q; exact ⟨a, e1, by rw [hK]; exact r⟩
theorem clean_get {g : List Sl} {i : Nat} {s : Sl} (h : (cleanG g)[i]? = some s) : ∃ t, g[i]? = some t ∧ s = cleanS t := by
  unfold cleanG at h
  rw [List.getElem?_map] at h
  cases e : g[i]? with
  | none => rw [e] at h; cases h
  | some t => rw [e] at h; exact ⟨t, rfl, (Option.some.inj h).symm⟩
theorem rel_out {P P' : Pa} {c : Ctx} {g : List Sl} {σ : St} {H Z : Hp} (hK : P'.K = P.K) (R : Rel P' c g σ H Z) : Rel P c (cleanG g) σ H Z := by
  have iso : ∀ i : Nat, isO (cleanG g)[i]? = true → isO g[i]? = true := fun i h => by
    cases e : (cleanG g)[i]? with
    | none => rw [e] at h; cases h
    | some s =>
      obtain ⟨t, e1, rfl⟩ := clean_get e
      rw [e] at h; rw [e1]
      cases t <;> first | exact h | cases h
  refine ⟨R.sub, R.zf, R.fr, R.bo, by unfold cleanG; rw [List.length_map]; exact R.len, fun i s e => ?_, fun i j a hij hi hj => R.ds i j a hij (iso i hi) (iso j hj), fun i ds e => ?_⟩
  · obtain ⟨t, e1, rfl⟩ := clean_get e
    have q := R.sl i t e1
    cases t with
    | un => trivial
    | fro d => obtain ⟨v, e1, r⟩ := q; exact ⟨v, e1, by rw [← hK]; exact r⟩
    | own ds => obtain ⟨a, vs, e1, h1, h2, h3, r⟩ := q; exact ⟨a, vs, e1, h1, h2, h3, by rw [← hK]; exact r⟩
    | bor ds => obtain ⟨a, vs, e1, h1, h2, h3, r⟩ := q; exact ⟨a, vs, e1, h1, h2, h3, by rw [← hK]; exact r⟩
    | exc k f p => trivial
    | scr ns => obtain ⟨a, e1, r⟩ := q; exact ⟨a, e1, by rw [← hK]; exact r⟩
  · obtain ⟨t, e1, e2⟩ := clean_get e
    cases t <;> first | (cases e2; done) | skip
    exact R.b0 i _ e1
theorem clean_set {g : List Sl} {i : Nat} : cleanG (g.set i .un) = (cleanG g).set i .un := by
  unfold cleanG
  rw [List.map_set]; rfl
/-- the suites' readings -/
def sui (K : PySem.W.Frag) (cA : Nat → Addr) (h : Hdl) : Value × Option Nat × TSuite := (cV cA h.1, h.2.1, fun a cls d => TSo ⟨K, cA, some (a, cls, d)⟩ W0 h.2.2)
theorem vr_out {P P' : Pa} {c : Ctx} {g g' : List Sl} {σ σ' : St} {H Z : Hp} {v : V} {ev : EV} (hK : P'.K = P.K) (hn : ∀ i : Nat, isO g'[i]? = true → isO g[i]? = true ∧ σ'[i]? = σ[i]?) (hv : ∀ j, ev ≠ .var j) (h : VR P' c g σ H Z v ev) : VR P c g' σ' H Z v ev := by
  cases ev with
  | fro d => have h : Dq P'.K Z v d := h; exact (by rw [hK] at h; exact h)
  | own ds => obtain ⟨a, vs, e1, h1, h2, h3, r, n⟩ := h; exact ⟨a, vs, e1, h1, h2, h3, by rw [← hK]; exact r, fun i hi => by obtain ⟨k1, k2⟩ := hn i hi; rw [k2]; exact n i k1⟩
  | var i => exact absurd rfl (hv i)
theorem off_ok {s : SM Fl} {cl : List Sl → List Sl} {g : List Sl} {ok : Fl → List Sl → Prop} {ex : Nat → Str → D → List Sl → Prop} (p : Post ok ex (offS s cl g)) : Post (fun fl g' => okFl fl = true ∧ ok fl (cl g')) (fun _ _ _ _ => False) (s g) := by
  unfold offS at p
  cases e : s g with
  | ok x =>
    obtain ⟨fl, g'⟩ := x
    rw [e] at p
    have p : Post ok ex (if okFl fl = true then Res.ok (fl, cl g') else .stuck) := p
    by_cases h : okFl fl = true
    · rw [if_pos h] at p; exact ⟨h, p⟩
    · rw [if_neg h] at p; exact p.elim
  | exn _ _ _ _ => rw [e] at p; exact p.elim
  | stuck => rw [e] at p; exact p.elim
/-- an error of class k comes to the clauses -/
theorem hand_ok {K : PySem.W.Frag} {cA : Nat → Addr} {sb : Nat → Nat → Bool} {n : Nat} {Wout : WX} {c : Ctx} {Dd : Ends} {Z0 : Hp} {k : Nat} {f : Str} {q : D} (hk : 0 < k ∧ k < n) :
    ∀ {hs : List Hdl} {g : List Sl}, (∀ h ∈ hs, ∀ k, 0 < k → k < n → PySem.W.exmOne K (.ref (cA k)) (cV cA h.1) = some (sb k h.1)) →
      Post (fun fl g' => FlP ⟨K, cA, none⟩ c Dd Z0 g' fl) (exS ⟨K, cA, none⟩ c Wout) (hand sb hs k f q g) →
      ∀ dd v σ' H' Z', Same Z0 Z' → Z' dd = some (.xd [(f, v)]) → Dq K Z' v q → Rel ⟨K, cA, none⟩ c g σ' H' Z' → wCl K Wout Dd (hs.map (sui K cA)) (.ref (cA k)) (some dd) σ' H'
  | [], g, _, p => fun dd v σ' H' Z' s' ez r R => p dd v σ' H' Z' ez r R
  | (cc, none, s) :: hs, g, hf, p => fun dd v σ' H' Z' s' ez r R => by
    refine ⟨sb k cc, hf _ List.mem_cons_self k hk.1 hk.2, fun hb a na => ?_, fun hb => ?_⟩
    · have p : Post (fun fl g' => FlP ⟨K, cA, none⟩ c Dd Z0 g' fl) (exS ⟨K, cA, none⟩ c Wout) ((if sb k cc = true then offS s cleanG else hand sb hs k f q) g) := p
      rw [if_pos hb] at p
      refine ⟨c, g, Z', rel_in (P := ⟨K, cA, none⟩) (P' := ⟨K, cA, some (a, .ref (cA k), some dd)⟩) rfl rfl R, post_mono (off_ok p) (fun fl g' pp => ?_) fun _ _ _ _ z => z.elim⟩
      obtain ⟨okf, pp⟩ := pp
      cases fl with
      | nx => exact fun σ2 H2 Z2 s2 R2 => pp σ2 H2 Z2 (s'.trans s2) (rel_out (P' := ⟨K, cA, some (a, .ref (cA k), some dd)⟩) rfl R2)
      | bk => exact fun σ2 H2 Z2 s2 R2 => pp σ2 H2 Z2 (s'.trans s2) (rel_out (P' := ⟨K, cA, some (a, .ref (cA k), some dd)⟩) rfl R2)
      | ct => exact fun σ2 H2 Z2 s2 R2 => pp σ2 H2 Z2 (s'.trans s2) (rel_out (P' := ⟨K, cA, some (a, .ref (cA k), some dd)⟩) rfl R2)
      | rt ev =>
        refine fun w σ2 H2 Z2 s2 R2 vr => pp w σ2 H2 Z2 (s'.trans s2) (rel_out (P' := ⟨K, cA, some (a, .ref (cA k), some dd)⟩) rfl R2) (vr_out (P' := ⟨K, cA, some (a, .ref (cA k), some dd)⟩) rfl (fun i hi => ⟨?_, rfl⟩) (fun j e => by subst e; cases okf) vr)
        cases e : (cleanG g')[i]? with
        | none => rw [e] at hi; cases hi
        | some s => obtain ⟨t, e1, rfl⟩ := clean_get e; rw [e] at hi; rw [e1]; cases t <;> first | exact hi | cases hi
    · have p : Post (fun fl g' => FlP ⟨K, cA, none⟩ c Dd Z0 g' fl) (exS ⟨K, cA, none⟩ c Wout) ((if sb k cc = true then offS s cleanG else hand sb hs k f q) g) := p
      rw [if_neg (by rw [hb]; exact Bool.false_ne_true)] at p
      exact hand_ok hk (fun h hh => hf h (List.mem_cons_of_mem _ hh)) p dd v σ' H' Z' s' ez r R
  | (cc, some i, s) :: hs, g, hf, p => fun dd v σ' H' Z' s' ez r R => by
    refine ⟨sb k cc, hf _ List.mem_cons_self k hk.1 hk.2, fun hb a na => ?_, fun hb => ?_⟩
    · have p : Post (fun fl g' => FlP ⟨K, cA, none⟩ c Dd Z0 g' fl) (exS ⟨K, cA, none⟩ c Wout) ((if sb k cc = true then excP i k f q s else hand sb hs k f q) g) := p
      rw [if_pos hb] at p
      unfold excP at p
      have key : ∃ t, g[i]? = some t ∧ Post (fun fl g' => FlP ⟨K, cA, none⟩ c Dd Z0 g' fl) (exS ⟨K, cA, none⟩ c Wout) (offS s (fun g' => cleanG (g'.set i .un)) (g.set i (.exc k f q))) := by
        cases es : g[i]? with
        | none => rw [es] at p; exact p.elim
        | some t => rw [es] at p; cases t <;> first | exact p.elim | exact ⟨_, rfl, p⟩
      obtain ⟨t, es, p⟩ := key
      have hi : i < σ'.length := by rw [← R.len]; exact (List.getElem?_eq_some_iff.mp es).1
      have R1 : Rel ⟨K, cA, some (a, .ref (cA k), some dd)⟩ c (g.set i (.exc k f q)) (σ'.set i (some (.ref a))) H' Z' :=
        (rel_in (P := ⟨K, cA, none⟩) (P' := ⟨K, cA, some (a, .ref (cA k), some dd)⟩) rfl rfl R).put hi ⟨a, dd, v, rfl, rfl, ez, r⟩ (fun z => nomatch z) (fun _ z => nomatch z)
      refine ⟨c, _, Z', R1, post_mono (off_ok p) (fun fl g' pp => ?_) fun _ _ _ _ z => z.elim⟩
      obtain ⟨okf, pp⟩ := pp
      have back : ∀ {σ2 : St} {H2 Z2 : Hp}, Rel ⟨K, cA, some (a, .ref (cA k), some dd)⟩ c g' σ2 H2 Z2 → Rel ⟨K, cA, none⟩ c (cleanG (g'.set i .un)) (σ2.set i none) H2 Z2 := fun {σ2 H2 Z2} R2 => rel_out (P' := ⟨K, cA, some (a, .ref (cA k), some dd)⟩) rfl (R2.forget i none)
      cases fl with
      | nx => exact fun σ2 H2 Z2 s2 R2 => pp _ H2 Z2 (s'.trans s2) (back R2)
      | bk => exact fun σ2 H2 Z2 s2 R2 => pp _ H2 Z2 (s'.trans s2) (back R2)
      | ct => exact fun σ2 H2 Z2 s2 R2 => pp _ H2 Z2 (s'.trans s2) (back R2)
      | rt ev =>
        refine fun w σ2 H2 Z2 s2 R2 vr => pp w _ H2 Z2 (s'.trans s2) (back R2) (vr_out (P' := ⟨K, cA, some (a, .ref (cA k), some dd)⟩) (σ := σ2) rfl (fun j hj => ?_) (fun j e => by subst e; cases okf) vr)
        cases e : (cleanG (g'.set i .un))[j]? with
        | none => rw [e] at hj; cases hj
        | some s =>
          obtain ⟨t, e1, rfl⟩ := clean_get e
          rw [e] at hj
          rcases getE_set e1 with ⟨rfl, rfl⟩ | ⟨hne, e2⟩
          · cases hj
          · refine ⟨?_, List.getElem?_set_ne (Ne.symm hne)⟩
            rw [e2]; cases t <;> first | exact hj | cases hj
    · have p : Post (fun fl g' => FlP ⟨K, cA, none⟩ c Dd Z0 g' fl) (exS ⟨K, cA, none⟩ c Wout) ((if sb k cc = true then excP i k f q s else hand sb hs k f q) g) := p
      rw [if_neg (by rw [hb]; exact Bool.false_ne_true)] at p
      exact hand_ok hk (fun h hh => hf h (List.mem_cons_of_mem _ hh)) p dd v σ' H' Z' s' ez r R
/-- the entry set anew: what is frozen now belongs to it -/
def Ctx.reb (c : Ctx) (H Z : Hp) : Ctx := ⟨fun b => if (Z b).isSome = true then H b else c.H0 b, fun b => if (Z b).isSome = true then Z b else c.Z0 b, c.B⟩
theorem Rel.reb {P : Pa} {c : Ctx} {g : List Sl} {σ : St} {H Z : Hp} (R : Rel P c g σ H Z) : Rel P (c.reb H Z) g σ H Z := by
  have hs : ∀ b x, Z b = some x → (c.reb H Z).H0 b = H b ∧ (c.reb H Z).Z0 b = Z b := fun b x e => ⟨if_pos (by rw [e]; rfl), if_pos (by rw [e]; rfl)⟩
  have hn : ∀ b, Z b = none → (c.reb H Z).H0 b = c.H0 b ∧ (c.reb H Z).Z0 b = c.Z0 b := fun b e => ⟨if_neg (by rw [e]; exact Bool.false_ne_true), if_neg (by rw [e]; exact Bool.false_ne_true)⟩
  refine ⟨R.sub, fun b x e => ?_, fun b x e hb => ?_, fun a e => ?_, R.len, fun i s e => ?_, R.ds, R.b0⟩
  · cases ez : Z b with
    | some y => rw [(hs b y ez).2, ez]
    | none => rw [(hn b ez).1] at e; rw [(hn b ez).2, ← R.zf b x e, ez]
  · cases ez : Z b with
    | some y => rw [(hs b y ez).1] at e; exact e
    | none => rw [(hn b ez).1] at e; exact R.fr b x e hb
  · obtain ⟨⟨vs, h1⟩, x, h2⟩ := R.bo a e
    refine ⟨⟨vs, h1⟩, ?_⟩
    cases ez : Z a with
    | some y => exact ⟨_, by rw [(hs a y ez).1]; exact h1⟩
    | none => exact ⟨x, by rw [(hn a ez).1]; exact h2⟩
  · have q := R.sl i s e
    cases s with
    | own ds => obtain ⟨a, vs, e1, h1, h2, h3, r⟩ := q; exact ⟨a, vs, e1, h1, h2, by rw [(hn a h2).1]; exact h3, r⟩
    | un => exact q
    | fro d => exact q
    | bor ds => exact q
    | exc k f p => exact q
    | scr ns => exact q
theorem reb_none {P : Pa} {c : Ctx} {g : List Sl} {σ : St} {H Z : Hp} (R : Rel P c g σ H Z) {a : Addr} (h : (c.reb H Z).H0 a = none) : c.H0 a = none := by
  have h : (if (Z a).isSome = true then H a else c.H0 a) = none := h
  by_cases hz : (Z a).isSome = true
  · rw [if_pos hz] at h
    obtain ⟨x, e⟩ := Option.isSome_iff_exists.mp hz
    rw [R.sub a x e] at h; cases h
  · rw [if_neg hz] at h; exact h
theorem Rel.unreb {P : Pa} {c : Ctx} {g g' : List Sl} {σ σ' : St} {H Z H' Z' : Hp} (R : Rel P c g σ H Z) (R' : Rel P (c.reb H Z) g' σ' H' Z') : Rel P c g' σ' H' Z' ∧ Same Z Z' := by
  have hs : ∀ b x, Z b = some x → (c.reb H Z).H0 b = H b ∧ (c.reb H Z).Z0 b = Z b := fun b x e => ⟨if_pos (by rw [e]; rfl), if_pos (by rw [e]; rfl)⟩
  have hn : ∀ b, Z b = none → (c.reb H Z).H0 b = c.H0 b ∧ (c.reb H Z).Z0 b = c.Z0 b := fun b e => ⟨if_neg (by rw [e]; exact Bool.false_ne_true), if_neg (by rw [e]; exact Bool.false_ne_true)⟩
  have same : Same Z Z' := fun b x e => by
    have := R'.zf b x (by rw [(hs b x e).1]; exact R.sub b x e)
    rw [this, (hs b x e).2]; exact e
  refine ⟨⟨R'.sub, fun b x e => ?_, fun b x e hb => ?_, fun a e => ?_, R'.len, fun i s e => ?_, R'.ds, R'.b0⟩, same⟩
  · cases ez : Z b with
    | some y => rw [← R.zf b x e, ez]; exact same b y ez
    | none => rw [R'.zf b x (by rw [(hn b ez).1]; exact e), (hn b ez).2]
  · cases ez : Z b with
    | some y => exact R'.fr b x (by rw [(hs b y ez).1]; exact R.fr b x e hb) hb
    | none => exact R'.fr b x (by rw [(hn b ez).1]; exact e) hb
  · exact ⟨(R'.bo a e).1, (R.bo a e).2⟩
  · have q := R'.sl i s e
    cases s with
    | own ds => obtain ⟨a, vs, e1, h1, h2, h3, r⟩ := q; exact ⟨a, vs, e1, h1, h2, reb_none R h3, r⟩
    | un => exact q
    | fro d => exact q
    | bor ds => exact q
    | exc k f p => exact q
    | scr ns => exact q
theorem flP_reb {P : Pa} {c : Ctx} {g g' : List Sl} {σ : St} {H Z : Hp} {Dd : Ends} {fl : Fl} (R : Rel P c g σ H Z) (h : FlP P c Dd Z g' fl) : FlP P (c.reb H Z) Dd Z g' fl := by
  cases fl with
  | nx => exact fun σ' H' Z' s' R' => h σ' H' Z' s' (R.unreb R').1
  | bk => exact fun σ' H' Z' s' R' => h σ' H' Z' s' (R.unreb R').1
  | ct => exact fun σ' H' Z' s' R' => h σ' H' Z' s' (R.unreb R').1
  | rt ev =>
    refine fun v σ' H' Z' s' R' vr => h v σ' H' Z' s' (R.unreb R').1 ?_
    cases ev with
    | fro d => exact vr
    | var i => exact vr
    | own ds => obtain ⟨a, vs, e1, h1, h2, h3, r⟩ := vr; exact ⟨a, vs, e1, h1, h2, reb_none R h3, r⟩
theorem ms_try {X : Cx} {W : WX} {K : PySem.W.Frag} {cA : Nat → Addr} {sb : Nat → Nat → Bool} {n : Nat} {b : SM Fl} {hs : List Hdl} {body : List Stmt} {h₀ : ExceptHandler} {hds : List ExceptHandler} {pos : Pos} (hK : X.K = K)
    (hst : X.stack = X.env :: X.outer) (hfr : X.env.frame = some X.env.locals) (hN : X.N.Nodup) (tk : Takes X W)
    (hf : ∀ h ∈ hs, ∀ k, 0 < k → k < n → PySem.W.exmOne K (.ref (cA k)) (cV cA h.1) = some (sb k h.1))
    (hb : ∀ (W : WX) (pn : List (Addr × Obj)) (xe : Value → Shared → Prop), Takes (X.tr pn xe) W → PassesOwn (model X.prog X.w) X.A X.env xe → PSs (X.tr pn xe) body (TSo ⟨K, cA, none⟩ W b))
    (hk : ClsOk X (h₀ :: hds) (hs.map (sui K cA))) : PS X (.Try body (h₀ :: hds) [] [] pos) (TSo ⟨K, cA, none⟩ W (tryS sb n b hs)) := by
  refine psW (ps_try_cl (tb := fun W => TSo ⟨K, cA, none⟩ W b) hst hfr hN tk hb hk) fun Dd σ H ⟨c, g, Z, R, p⟩ => ?_
  rw [hK]
  refine ⟨c.reb H Z, g, Z, R.reb, ?_⟩
  unfold tryS at p
  cases e : b g with
  | ok x => rw [e] at p; exact flP_reb R p
  | stuck => rw [e] at p; exact p
  | exn k f q g' =>
    rw [e] at p
    have p : Post (fun fl g' => FlP ⟨K, cA, none⟩ c Dd Z g' fl) (exS ⟨K, cA, none⟩ c W) ((if 0 < k ∧ k < n then hand sb hs k f q else fun _ => .stuck) g') := by
      by_cases hkn : 0 < k ∧ k < n
      · rw [if_pos hkn]
        have p : Post (fun fl g' => FlP ⟨K, cA, none⟩ c Dd Z g' fl) (exS ⟨K, cA, none⟩ c W) ((if 0 < k ∧ k < n then hand sb hs k f q g' else .stuck)) := p
        rw [if_pos hkn] at p; exact p
      · have p : Post (fun fl g' => FlP ⟨K, cA, none⟩ c Dd Z g' fl) (exS ⟨K, cA, none⟩ c W) ((if 0 < k ∧ k < n then hand sb hs k f q g' else .stuck)) := p
        rw [if_neg hkn] at p; exact p.elim
    by_cases hkn : 0 < k ∧ k < n
    · rw [if_pos hkn] at p
      refine fun dd v σ' H' Z' ez r R' => ?_
      obtain ⟨R2, s2⟩ := R.unreb R'
      exact hand_ok hkn hf p dd v σ' H' Z' s2 ez r R2
    · rw [if_neg hkn] at p; exact p.elim

/-! ## the error in hand -/
/-- what is asked of the class of an error -/
structure ErC (K : PySem.W.Frag) (C : Addr) : Prop where
  ga : PySem.W.findIn K (.ref C) "__getattribute__" = some (some (.builtin "BaseException.__getattribute__"))
  gg : PySem.W.findIn K (.ref C) "__getattr__" = some none
  ex : PySem.W.subIn K (.ref C) (.type "BaseException") = some true
  hd : PySem.W.hasDictIn K C = true
  cl : PySem.W.findIn K (.ref C) "__class__" = some (some (.builtin "object.__class__"))
  sg : PySem.W.specialIn K (.builtin "object.__class__") "__get__" = some (some (.builtin "getset_descriptor.__get__"))
  tk : PySem.W.takesIn K (.builtin "object.__class__") = some true
  mo : PySem.W.mroIn K C (.type "object") = some true
def rIsx (K : PySem.W.Frag) (a : Addr) (cls : Value) (d : Option Addr) : List V → Hp → VK → Prop := fun xs H Q => ∃ (D dd : Addr) (fs : List (Str × V)), cls = .ref D ∧ ErC K D ∧ d = some dd ∧ H dd = some (.xd fs) ∧
  ((∃ (c : V) (cv : Value) (b : Bool), xs = [.ref a, c] ∧ ClsV c cv ∧ PySem.W.kitOne K (.ref D) cv = some b ∧ Q (.bl b) H) ∨
   (∃ (tp : Addr) (cs : List V) (us : List Value) (b : Bool), xs = [.ref a, .ref tp] ∧ H tp = some (.tup cs) ∧ Paired ClsV cs us ∧ PySem.W.kitAny K (.ref D) us = some b ∧ Q (.bl b) H))
theorem call_isx {X : Cx} {a : Addr} {oe : Obj} {cls : Value} {d : Option Addr} {pn : List (Addr × Obj)} (hz : Zc cls d oe) (hf : ∃ vs, oe.data = .fields vs) : CallR (X.suite a ((a, oe) :: pn)) (.builtin "isinstance") (rIsx X.K a cls d) := by
  intro pins s σ H xs us Q I r h
  obtain ⟨D, dd, fs, rfl, E, rfl, hdd, h⟩ := h
  obtain ⟨hget, _⟩ := I.pin (a, oe) (List.mem_append.mpr (.inl List.mem_cons_self))
  obtain ⟨vs, hv⟩ := hf
  have hx : ObjOk X.prog X.w H s.heap dd (.xd fs) := I.hok dd _ hdd
  obtain ⟨mA, hns, _⟩ := hx
  obtain ⟨od, ho, _⟩ := lookIn_ns hns
  have J : PySem.W.InstAt s.heap a oe D (some od) := ⟨hget, hz.1, by unfold PySem.W.notCls; rw [hv] <;> rfl, by rw [hz.2]; exact ho⟩
  have hcl : (PySem.W.clsIn X.K D).isSome = true := by
    obtain ⟨cd, hc, _⟩ := PySem.W.any_some E.hd
    rw [hc]; rfl
  have Kx := PySem.W.kitx_exc (K := X.K) (x := a) (C := D) (ox := oe) (od := some od) hcl E.ga E.gg E.ex E.cl E.sg E.tk E.mo
  rcases h with ⟨c, cv, b, rfl, hc, e, q⟩ | ⟨tp, cs, us', b, rfl, htp, hp, e, q⟩
  · cases r with
    | cons rx rr =>
      cases rr with
      | cons rt rr =>
        cases rr
        cases rx
        have ec := hc.eq rt
        subst ec
        exact PySem.W.kia_one Kx I.kIn J e (fun z => nomatch z) fun tk => ⟨.bl b, H, I.kept (t' := tk) fun _ _ z => z, rfl, q⟩
  · cases r with
    | cons rx rr =>
      cases rr with
      | cons rt rr =>
        cases rr
        cases rx
        cases rt
        obtain ⟨_, its, rv, o, h1, h2, n, h3⟩ := (show ObjOk X.prog X.w H s.heap tp (.tup cs) from I.hok tp _ htp)
        have e3 := ClsV.all hp rv
        subst e3
        obtain ⟨oc, od', dt, sl⟩ := o
        simp only at h2 h3
        subst h2 h3
        exact PySem.W.kia_tup Kx I.kIn J h1 e (fun z => nomatch z) fun tk => ⟨.bl b, H, I.tok tk, rfl, q⟩
/-- the facts of the classes 1 .. n - 1 of errors, 0 is ValueError -/
structure Errs (K : PySem.W.Frag) (cA : Nat → Addr) (sb : Nat → Nat → Bool) (n : Nat) : Prop where
  er : ∀ k, 0 < k → k < n → ErC K (cA k)
  kit : ∀ k, 0 < k → k < n → ∀ j, j < n → PySem.W.kitOne K (.ref (cA k)) (cV cA j) = some (sb k j)
  exm : ∀ k, 0 < k → k < n → ∀ j, j < n → PySem.W.exmOne K (.ref (cA k)) (cV cA j) = some (sb k j)
  f1 : ∀ k, 0 < k → k < n → ∀ f : Str, (f = "at" ∨ f = "limit" ∨ f = "line") → PySem.W.findIn K (.ref (cA k)) f = some none
def cVV (cA : Nat → Addr) : Nat → V
  | 0 => .ty "ValueError"
  | j => .ref (cA j)
theorem cVV_ok {cA : Nat → Addr} : ∀ j : Nat, ClsV (cVV cA j) (cV cA j)
  | 0 => .ty _
  | j + 1 => .own _
/-- isinstance(error, C): error in slot i -/
def isxE (sb : Nat → Nat → Bool) (n : Nat) (i : Nat) (cs : List Nat) : SM EV := fun g => match g[i]? with
  | some (.exc k _ _) => if 0 < k ∧ k < n then .ok (.fro (.bool (cs.any (sb k))), g) else .stuck
  | _ => .stuck
def fldE (n : Nat) (i : Nat) (x : Str) : SM EV := fun g => match g[i]? with
  | some (.exc k f p) => if 0 < k ∧ k < n ∧ f = x then .ok (.fro p, g) else .stuck
  | _ => .stuck
def tCs : List V → TA
  | [] => tNil
  | v :: vs => tCons (tC v) (tCs vs)
theorem tCs_ok : ∀ {vs : List V} {σ : St} {H : Hp} {Q : List V → Hp → Prop}, Q vs H → tCs vs σ H Q
  | [], _, _, _, q => q
  | v :: vs, σ, H, Q, q => tCs_ok (vs := vs) (Q := fun xs H2 => Q (v :: xs) H2) q
section
variable {X : Cx} {K : PySem.W.Frag} {cA : Nat → Addr} {sb : Nat → Nat → Bool} {n : Nat} {a : Addr} {oe : Obj} {cls : Value} {d : Option Addr} {pn : List (Addr × Obj)} {e : Expr} {i : Nat} {pos : Pos} {W : WX}
theorem exc_at {c : Ctx} {g : List Sl} {σ : St} {H Z : Hp} {k : Nat} {f : Str} {p : D} (R : Rel ⟨K, cA, some (a, cls, d)⟩ c g σ H Z) (es : g[i]? = some (.exc k f p)) : σ[i]? = some (some (.ref a)) ∧ cls = .ref (cA k) ∧ ∃ dd v, d = some dd ∧ Z dd = some (.xd [(f, v)]) ∧ Dq K Z v p := by
  obtain ⟨a', dd, v, e1, e2, e3, r⟩ := R.sl i _ es
  have e1 : some (a, cls, d) = some (a', .ref (cA k), some dd) := e1
  have e4 := Option.some.inj e1
  have ea : a = a' := congrArg Prod.fst e4
  have ec : cls = .ref (cA k) := congrArg (fun z => z.2.1) e4
  have ed : d = some dd := congrArg (fun z => z.2.2) e4
  exact ⟨by rw [ea]; exact e2, ec, dd, v, ed, e3, r⟩
theorem isx_1 (E : Errs K cA sb n) {j : Nat} (hj : j < n) (h : PE (X.suite a ((a, oe) :: pn)) e (tCB (rIsx K a cls d) (tCons (tVar i) (tCons (tC (cVV cA j)) tNil)))) : PE (X.suite a ((a, oe) :: pn)) e (TEo ⟨K, cA, some (a, cls, d)⟩ W (isxE sb n i [j])) :=
  peW h fun σ H Q ⟨c, g, Z, R, p⟩ => by
    unfold isxE at p
    cases es : g[i]? with
    | none => rw [es] at p; exact p.elim
    | some s =>
      rw [es] at p
      cases s with
      | un => exact p.elim
      | fro _ => exact p.elim
      | own _ => exact p.elim
      | bor _ => exact p.elim
      | scr _ => exact p.elim
      | exc k f q =>
        obtain ⟨h1, h2, dd, v, h3, h4, h5⟩ := exc_at R es
        by_cases hk : 0 < k ∧ k < n
        · have p : Post (fun ev g' => ∀ v H' Z', Same Z Z' → Rel ⟨K, cA, some (a, cls, d)⟩ c g' σ H' Z' → VR ⟨K, cA, some (a, cls, d)⟩ c g' σ H' Z' v ev → Q v H') (exK ⟨K, cA, some (a, cls, d)⟩ c σ W) (if 0 < k ∧ k < n then Res.ok (EV.fro (.bool ([j].any (sb k))), g) else .stuck) := p
          rw [if_pos hk] at p
          refine ⟨_, h1, cA k, dd, _, h2, E.er k hk.1 hk.2, h3, R.sub _ _ h4, .inl ⟨_, _, sb k j, rfl, cVV_ok j, E.kit k hk.1 hk.2 j hj, ?_⟩⟩
          have := p (.bl (sb k j)) H Z (Same.refl _) R (by rw [List.any_cons, List.any_nil, Bool.or_false]; exact .bl _)
          exact this
        · have p : Post (fun ev g' => ∀ v H' Z', Same Z Z' → Rel ⟨K, cA, some (a, cls, d)⟩ c g' σ H' Z' → VR ⟨K, cA, some (a, cls, d)⟩ c g' σ H' Z' v ev → Q v H') (exK ⟨K, cA, some (a, cls, d)⟩ c σ W) (if 0 < k ∧ k < n then Res.ok (EV.fro (.bool ([j].any (sb k))), g) else .stuck) := p
          rw [if_neg hk] at p; exact p.elim
theorem kitAny_of (E : Errs K cA sb n) {k : Nat} (hk : 0 < k ∧ k < n) : ∀ {js : List Nat}, (∀ j ∈ js, j < n) → PySem.W.kitAny K (.ref (cA k)) (js.map (cV cA)) = some (js.any (sb k))
  | [], _ => rfl
  | j :: js, h => by
    refine kitAny_cons (E.kit k hk.1 hk.2 j (h j List.mem_cons_self)) (fun hb => ?_) fun hb => ?_
    · rw [kitAny_of E hk fun i hi => h i (List.mem_cons_of_mem _ hi), List.any_cons, hb]; rfl
    · rw [List.any_cons, hb]; rfl
theorem clsL {cA : Nat → Addr} : ∀ js : List Nat, Paired ClsV (js.map (cVV cA)) (js.map (cV cA))
  | [] => .nil
  | j :: js => .cons (cVV_ok j) (clsL js)
theorem isx_N (E : Errs K cA sb n) {js : List Nat} (hj : ∀ j ∈ js, j < n) (hz : js.length ≤ SZ) (h : PE (X.suite a ((a, oe) :: pn)) e (tCB (rIsx K a cls d) (tCons (tVar i) (tCons (tTup (tCs (js.map (cVV cA)))) tNil)))) : PE (X.suite a ((a, oe) :: pn)) e (TEo ⟨K, cA, some (a, cls, d)⟩ W (isxE sb n i js)) :=
  peW h fun σ H Q ⟨c, g, Z, R, p⟩ => by
    unfold isxE at p
    cases es : g[i]? with
    | none => rw [es] at p; exact p.elim
    | some s =>
      rw [es] at p
      cases s with
      | un => exact p.elim
      | fro _ => exact p.elim
      | own _ => exact p.elim
      | bor _ => exact p.elim
      | scr _ => exact p.elim
      | exc k f q =>
        obtain ⟨h1, h2, dd, v, h3, h4, h5⟩ := exc_at R es
        by_cases hk : 0 < k ∧ k < n
        · have p : Post (fun ev g' => ∀ v H' Z', Same Z Z' → Rel ⟨K, cA, some (a, cls, d)⟩ c g' σ H' Z' → VR ⟨K, cA, some (a, cls, d)⟩ c g' σ H' Z' v ev → Q v H') (exK ⟨K, cA, some (a, cls, d)⟩ c σ W) (if 0 < k ∧ k < n then Res.ok (EV.fro (.bool (js.any (sb k))), g) else .stuck) := p
          rw [if_pos hk] at p
          refine ⟨_, h1, tCs_ok ⟨by rw [List.length_map, ← SZ_eq]; exact hz, fun t ht => ?_⟩⟩
          refine ⟨cA k, dd, [(f, v)], h2, E.er k hk.1 hk.2, h3, ?_, .inr ⟨t, _, _, js.any (sb k), rfl, upd_same, clsL js, kitAny_of E hk hj, p (.bl _) _ _ (same_new (R.zn ht)) (R.newZ ht) (.bl _)⟩⟩
          rw [upd_ne (ne_of_none (R.sub _ _ h4) ht)]; exact R.sub _ _ h4
        · have p : Post (fun ev g' => ∀ v H' Z', Same Z Z' → Rel ⟨K, cA, some (a, cls, d)⟩ c g' σ H' Z' → VR ⟨K, cA, some (a, cls, d)⟩ c g' σ H' Z' v ev → Q v H') (exK ⟨K, cA, some (a, cls, d)⟩ c σ W) (if 0 < k ∧ k < n then Res.ok (EV.fro (.bool (js.any (sb k))), g) else .stuck) := p
          rw [if_neg hk] at p; exact p.elim
theorem me_fld (E : Errs K cA sb n) (hK : X.K = K) (hz : Zc cls d oe) (hf : ∃ vs, oe.data = .fields vs) {x : Str} (hx : x = "at" ∨ x = "limit" ∨ x = "line") (he : PE (X.suite a ((a, oe) :: pn)) e (tVar i)) (hb : attributeBase e x X.env (eval e X.env) = eval e X.env := by rfl) :
    PE (X.suite a ((a, oe) :: pn)) (.Attribute e x pos) (TEo ⟨K, cA, some (a, cls, d)⟩ W (fldE n i x)) := ⟨fun pins s σ H Q I ⟨c, g, Z, R, p⟩ => by
    unfold fldE at p
    cases es : g[i]? with
    | none => rw [es] at p; exact p.elim
    | some s =>
      rw [es] at p
      cases s with
      | un => exact p.elim
      | fro _ => exact p.elim
      | own _ => exact p.elim
      | bor _ => exact p.elim
      | scr _ => exact p.elim
      | exc k f q =>
        obtain ⟨h1, h2, dd, v, h3, h4, h5⟩ := exc_at R es
        by_cases hk : 0 < k ∧ k < n ∧ f = x
        · have p : Post (fun ev g' => ∀ v H' Z', Same Z Z' → Rel ⟨K, cA, some (a, cls, d)⟩ c g' σ H' Z' → VR ⟨K, cA, some (a, cls, d)⟩ c g' σ H' Z' v ev → Q v H') (exK ⟨K, cA, some (a, cls, d)⟩ c σ W) (if 0 < k ∧ k < n ∧ f = x then Res.ok (EV.fro q, g) else .stuck) := p
          rw [if_pos hk] at p
          have p0 := p
          clear p
          obtain ⟨k1, k2, k3⟩ := hk
          subst k3
          subst h2
          subst h3
          have p := p0
          have Ek := E.er k k1 k2
          have T : XfC X.K (cA k) := by rw [hK]; exact ⟨Ek.ga, Ek.gg, Ek.ex, Ek.hd⟩
          refine (pe_xf (pos := pos) T (by rw [hK]; exact E.f1 k k1 k2 f hx) hz hf he hb).run pins s σ H Q I ?_
          exact ⟨_, h1, rfl, rfl, dd, _, v, rfl, R.sub _ _ h4, by simp [List.lookup], p v H Z (Same.refl _) R h5⟩
        · have p : Post (fun ev g' => ∀ v H' Z', Same Z Z' → Rel ⟨K, cA, some (a, cls, d)⟩ c g' σ H' Z' → VR ⟨K, cA, some (a, cls, d)⟩ c g' σ H' Z' v ev → Q v H') (exK ⟨K, cA, some (a, cls, d)⟩ c σ W) (if 0 < k ∧ k < n ∧ f = x then Res.ok (EV.fro q, g) else .stuck) := p
          rw [if_neg hk] at p; exact p.elim⟩
end

/-! ## isinstance of data -/
inductive Ty where
  | int | bool | str | list | tuple
def Ty.nm : Ty → String
  | .int => "int" | .bool => "bool" | .str => "str" | .list => "list" | .tuple => "tuple"
def isTy : Ty → D → Bool
  | .int, .int _ => true | .int, .bool _ => true | .bool, .bool _ => true | .str, .str _ => true | .list, .list _ => true | .tuple, .tuple _ => true
  | _, _ => false
def tyN : D → String
  | .none => "NoneType" | .bool _ => "bool" | .int _ => "int" | .str _ => "str" | .list _ => "list" | .tuple _ => "tuple" | .dict _ => "dict"
def isiF (ts : List Ty) (d : D) : Option Out := match d with
  | .dict _ => none
  | d => vB (ts.any fun t => isTy t d)
theorem tyx_of {K : PySem.W.Frag} {H Z : Hp} {v : V} {d : D} (h : Rr K H Z v d) (s : Same Z H) : TyX K H v (.type (tyN d)) := by
  cases d with
  | none => rw [h.non]; exact .base .non
  | bool b => rw [h.bl]; exact .base (.bl b)
  | int b => rw [h.int]; exact .base (.int b)
  | str b => rw [h.str]; exact .base (.str b)
  | list ds => obtain ⟨a, vs, rfl, h1, r1⟩ := h.lst s; exact .base (.lst h1)
  | tuple ds =>
    obtain ⟨a, vs, rfl, h1, r1⟩ := h.tup s
    rcases h1 with (h1 | ⟨o, h1⟩) | ⟨o, its, n, hk, hc, _⟩
    · exact .base (.tup h1)
    · exact .fTuple h1
    · exact .kTuple hk hc
  | dict _ => cases h with | z h => cases h
theorem kb_NoneType (t : Ty) : kitB "NoneType" t.nm = some (isTy t (.none)) := by cases t <;> decide +kernel
theorem kb_bool (t : Ty) : kitB "bool" t.nm = some (isTy t (.bool true)) := by cases t <;> decide +kernel
theorem kb_int (t : Ty) : kitB "int" t.nm = some (isTy t (.int 0)) := by cases t <;> decide +kernel
theorem kb_str (t : Ty) : kitB "str" t.nm = some (isTy t (.str "")) := by cases t <;> decide +kernel
theorem kb_list (t : Ty) : kitB "list" t.nm = some (isTy t (.list [])) := by cases t <;> decide +kernel
theorem kb_tuple (t : Ty) : kitB "tuple" t.nm = some (isTy t (.tuple [])) := by cases t <;> decide +kernel
theorem kit_d {K : PySem.W.Frag} (d : D) (t : Ty) (h : ∀ kvs, d ≠ .dict kvs) : PySem.W.kitOne K (.type (tyN d)) (.type t.nm) = some (isTy t d) := by
  cases d with
  | dict k => exact absurd rfl (h k)
  | none => exact kit_ty (kb_NoneType t)
  | bool b => exact (kit_ty (kb_bool t)).trans (by cases t <;> rfl)
  | int b => exact (kit_ty (kb_int t)).trans (by cases t <;> rfl)
  | str b => exact (kit_ty (kb_str t)).trans (by cases t <;> rfl)
  | list b => exact (kit_ty (kb_list t)).trans (by cases t <;> rfl)
  | tuple b => exact (kit_ty (kb_tuple t)).trans (by cases t <;> rfl)
theorem kitL {K : PySem.W.Frag} {d : D} (h : ∀ kvs, d ≠ .dict kvs) : ∀ ts : List Ty, PySem.W.kitAny K (.type (tyN d)) (ts.map fun t => Value.type t.nm) = some (ts.any fun t => isTy t d)
  | [] => rfl
  | t :: ts => by
    refine kitAny_cons (kit_d d t h) (fun hb => ?_) fun hb => ?_
    · rw [kitL h ts, List.any_cons, hb]; rfl
    · rw [List.any_cons, hb]; rfl
theorem tysP : ∀ ts : List Ty, Paired ClsV (ts.map fun t => V.ty t.nm) (ts.map fun t => Value.type t.nm)
  | [] => .nil
  | t :: ts => .cons (.ty _) (tysP ts)
section
variable {X : Cx} {P : Pa} {W : WX} {e : Expr} {da : SM EV}
theorem me_isi1 {t : Ty} (h : PE X e (tCB (rIsi P.K) (tCons (TEo P W da) (tCons (tC (.ty t.nm)) tNil)))) : PE X e (TEo P W (op1 (isiF [t]) da)) :=
  peW h fun σ H Q ⟨c, g, Z, R, p⟩ => TEo.on R p fun x g1 v H1 Z1 s1 R1 vx p1 => by
    refine app1_ok (r := fun x H Q => rIsi P.K [x, .ty t.nm] H Q) (fun H Z x d o Q s h e q => ?_) R1 vx p1 fun o q => out_fin R1 s1 q
    have nd : ∀ kvs, d ≠ .dict kvs := fun kvs z => by subst z; cases e
    have eo : o = .val (.bool ([t].any fun t => isTy t d)) := by
      unfold isiF at e
      cases d <;> first | (cases e; rfl) | (cases e)
    subst eo
    refine ⟨x, _, _, _, isTy t d, rfl, .ty _, tyx_of h s, kit_d d t nd, ?_⟩
    have := q (.bl (isTy t d)) (by rw [List.any_cons, List.any_nil, Bool.or_false]; exact .bl _)
    exact this
theorem me_isiN {ts : List Ty} (hz : ts.length ≤ SZ) (h : PE X e (tCB (rIsiT P.K) (tCons (TEo P W da) (tCons (tTup (tCs (ts.map fun t => V.ty t.nm))) tNil)))) : PE X e (TEo P W (op1 (isiF ts) da)) :=
  peW h fun σ H Q ⟨c, g, Z, R, p⟩ => TEo.on R p fun x g1 v H1 Z1 s1 R1 vx p1 => by
    refine tCs_ok ⟨by rw [List.length_map, ← SZ_eq]; exact hz, fun t ht => ?_⟩
    have sT := same_new (o := .tup (ts.map fun t => V.ty t.nm)) (R1.zn ht)
    refine app1_ok (r := fun x H Q => H t = some (.tup (ts.map fun t => V.ty t.nm)) → rIsiT P.K [x, .ref t] H Q) (fun H Z x d o Q s h e q ht => ?_) (R1.newZ ht) (vx.mono sT) p1 (fun o q => out_fin (R1.newZ ht) (s1.trans sT) q) upd_same
    have nd : ∀ kvs, d ≠ .dict kvs := fun kvs z => by subst z; cases e
    have eo : o = .val (.bool (ts.any fun t => isTy t d)) := by
      unfold isiF at e
      cases d <;> first | (cases e; rfl) | (cases e)
    subst eo
    exact ⟨x, t, _, _, _, _, rfl, ht, tysP ts, tyx_of h s, kitL nd ts, q _ (.bl _)⟩
end
end Mw
namespace Mw
open PySem L2

/-! ## own errors made -/
/-- `self.f = e` in an __init__(self, at): the field's value -/
def iniD (den : SM EV) : D → Option D := fun d => match bnd den esc [.un, .fro d] with
  | .ok (d', _) => some d'
  | _ => none
def SpI (K : PySem.W.Frag) (C : Addr) (f : Str) (den : SM EV) : Sp := fun vs H Q E => ∃ a y d Z d', vs = [.ref a, y] ∧ OexC K C ∧ PySem.W.findIn K (.ref C) f = some none ∧ H a = some (exo a C none) ∧ Z a = none ∧ Same Z H ∧ Dq K Z y d ∧ iniD den d = some d' ∧
  ∀ y' H' Z' dx, Left K H Z none none H' Z' → Dq K Z' y' d' → H' dx = none → dx ≠ a → Q .non (upd (upd H' dx (exd dx [(f, y')])) a (exo a C (some dx)))
theorem init_ok {P : Program} {w : World} {K : PySem.W.Frag} {mg : Str → Option Value} {base : Heap} {cA : Nat → Addr} {x qual : Str} {st : Stmt} {fI C : Addr} {fd : FuncData} {N ps : List Str} {k : Nat} {f : Str} {den : SM EV} {o : Expr} {e : Expr} {p p' : Pos} (F : L2.Fun K x qual st fI fd) (S : FnScope N ps (defScope st)) (hp : ps.length = 2) (hN : N.length = 2)
    (hst : defBody st = [.Assign [.Attribute o f p'] e p])
    (hb : ∀ (cdv : Value) (A : Around) (outer : List Env) (s : Shared) (H : Hp) (E : XK) (X : Cx), X = cxOf (L2.CX P w) P w K mg base N qual (defScope st) fI cdv A outer s H E → Room k X.A →
      Takes X (fun cls d _ H => E cls d H) → PassesOwn (model X.prog X.w) X.A X.env X.xe → PE (cxOf (L2.CX P w) P w K mg base N qual (defScope st) fI cdv A outer s H E) o (tVar 0) ∧ PE (cxOf (L2.CX P w) P w K mg base N qual (defScope st) fI cdv A outer s H E) e (TEo ⟨K, cA, none⟩ (fun cls d _ H => E cls d H) den)
        ∧ (swapsWith e (some (.Attribute o f p')) p.line (cxOf (L2.CX P w) P w K mg base N qual (defScope st) fI cdv A outer s H E).env = pure false)) :
    FnOk P w K mg base (L2.CX P w) (k + 1) fI fd ps (SpI K C f den) := by
  refine F.okX S (fun vs H Q E h => ?_) (fun cdv A outer s H vs Q E hr h => ?_)
  · obtain ⟨a, y, d, Z, d', rfl, _⟩ := h
    rw [hp]; rfl
  · obtain ⟨ho, he, hs⟩ := hb cdv A outer s H E _ rfl hr (takes_of rfl rfl rfl rfl) (passes_of rfl)
    refine ⟨_, by rw [hst]; exact pss_one (ps_ost ho he hs), ?_⟩
    obtain ⟨a, y, d, Z, d', rfl, oc, hno, ea, za, sz, hd, hi, q⟩ := h
    have R : Rel ⟨K, cA, none⟩ ⟨H, Z, none⟩ [.un, .fro d] (L2.start N [.ref a, y]) H Z := by
      refine ⟨sz, fun _ _ _ => rfl, fun _ _ e _ => e, (fun a e => nomatch e), ?_, fun i s e => ?_, fun i j b hij hi' hj => ?_, fun i ds e => ?_⟩
      · unfold L2.start
        rw [List.length_append, List.length_map, List.length_replicate, hN]; rfl
      · match i, e with
        | 0, e => cases e; trivial
        | 1, e => cases e; exact ⟨y, rfl, hd⟩
        | i + 2, e => cases e
      · exfalso
        match i, hi' with
        | 0, z => cases z
        | 1, z => cases z
        | i + 2, z => cases z
      · match i, e with
        | 0, e => cases e
        | 1, e => cases e
        | i + 2, e => cases e
    refine ⟨_, _, Z, R, ?_⟩
    unfold iniD at hi
    -- the value, escaped
    have key : Post (fun ev g' => ∃ d2 g2, esc ev g' = .ok (d2, g2) ∧ d2 = d') (fun _ _ _ _ => False) (den [.un, .fro d]) := by
      cases e1 : den [.un, .fro d] with
      | ok x =>
        obtain ⟨ev, g'⟩ := x
        have e2 : bnd den esc [.un, .fro d] = esc ev g' := by unfold bnd; rw [e1]
        rw [e2] at hi
        cases e3 : esc ev g' with
        | ok z => obtain ⟨d2, g2⟩ := z; rw [e3] at hi; exact ⟨d2, g2, e3, Option.some.inj hi⟩
        | exn _ _ _ _ => rw [e3] at hi; cases hi
        | stuck => rw [e3] at hi; cases hi
      | exn c x p g =>
        have e2 : bnd den esc [.un, .fro d] = .exn c x p g := by unfold bnd; rw [e1]
        rw [e2] at hi; cases hi
      | stuck =>
        have e2 : bnd den esc [.un, .fro d] = .stuck := by unfold bnd; rw [e1]
        rw [e2] at hi; cases hi
    refine post_mono key (fun ev g' hev v H1 Z1 s1 R1 vr => ?_) fun _ _ _ _ z => z.elim
    obtain ⟨d2, g2, e3, rfl⟩ := hev
    -- the value belongs to the frozen part
    have hesc : ∃ Z2 g3, Same Z1 Z2 ∧ Rel ⟨K, cA, none⟩ ⟨H, Z, none⟩ g3 (L2.start N [.ref a, y]) H1 Z2 ∧ Dq K Z2 v d2 := by
      cases ev with
      | fro dd => have : dd = d2 := by unfold esc ret at e3; cases e3; rfl
                  subst this; exact ⟨Z1, g', Same.refl _, R1, vr⟩
      | own ds =>
        have : PyData.list ds = d2 := by unfold esc ret at e3; cases e3; rfl
        subst this
        obtain ⟨b, vs, rfl, h1, h2, h3, r, n⟩ := vr
        exact ⟨_, g', same_new h2, R1.frz h1 h3 h2 n, .lst upd_same (dpAM (same_new h2) r)⟩
      | var i =>
        have q1 : Post (fun d3 g3 => d3 = d2) (fun _ _ _ _ => True) (esc (.var i) g') := by rw [e3]; rfl
        obtain ⟨d3, g3, Z2, s2, R2, r2, q2⟩ := esc_ok R1 (ev := .var i) (v := v) vr q1
        subst q2
        exact ⟨Z2, g3, s2, R2, r2⟩
    obtain ⟨Z2, g3, s2, R2, r2⟩ := hesc
    refine ⟨_, rfl, a, C, rfl, oc, hno, .inl ⟨R2.fr a _ ea (fun z => nomatch z), fun dx hx na => ?_⟩⟩
    exact q v H1 Z2 dx ⟨s1.trans s2, R2.sub, R2.zf, fun b x e _ => R2.fr b x e (fun z => nomatch z), fun b z => nomatch z⟩ r2 hx na
/-- `raise C(e)` -/
def raiseS (k : Nat) (f : Str) (ini : D → Option D) (da : SM EV) : SM Fl := bnd da fun ev => bnd (esc ev) fun d => fun g => match ini d with
  | some d' => .exn k f d' g
  | none => .stuck
theorem ms_raise {X : Cx} {P : Pa} {W : WX} {x f : Str} {fI : Addr} {k j : Nat} {fd : FuncData} {ps : List Str} {den da : SM EV} {e : Expr} {p pos pos' : Pos} (T : OexC X.K (P.cA j)) (hK : X.K = P.K) (iC : PySem.W.findIn X.K (.ref (P.cA j)) "__init__" = some (some (.ref fI))) (tI : PySem.W.typeIn X.K (.ref fI) = some (.type "function")) (hno : PySem.W.findIn P.K (.ref (P.cA j)) f = some none)
    (F1 : FnOk X.prog X.w X.K X.mg X.base (L2.CX X.prog X.w) k fI fd ps (SpI P.K (P.cA j) f den)) (hr : Room (k + 1) X.A) (hb : Binds X.K fd ps []) (tk : Takes X W) (hc : X.calm = true) (hg : Gl X x) (hm : X.mg x = some (.ref (P.cA j))) (ha : PE X e (TEo P W da))
    (hdb : (x == ("__debug__" : Str)) = false := by decide) (he : starEach (e :: []) X.env = (false, eval e X.env) :: starEach [] X.env := by rfl) (hpl : (backTo pos (starEach [] X.env)).any (·.1) = false := by rfl) :
    PS X (.Raise (some (.Call (.Name x p) [e] [] pos)) none pos') (TSo P W (raiseS j f (iniD den) da)) := by
  refine psW (ps_raise hc tk (pmk_oex T iC tI F1 hr hb .nil (passes_call tk (fun _ _ _ _ z => z.elim)) hg hm (pa_cons ha pa_nil he) hdb he hpl)) fun Dd σ H ⟨c, g, Z, R, p⟩ => ?_
  refine TEo.onS R p fun ev g1 v H1 Z1 s1 R1 vr p1 => ?_
  have fin : ∀ {d : D} {g2 : List Sl} {Z2 : Hp}, Rel P c g2 σ H1 Z2 → Dq P.K Z2 v d → Post (fun fl g' => FlP P c Dd Z g' fl) (exS P c W) ((fun g => match iniD den d with
      | some d' => Res.exn j f d' g
      | none => .stuck) g2) → tNil σ H1 (fun ys H2 => ∀ a, H2 a = none → SpI P.K (P.cA j) f den (.ref a :: ((v :: ys) ++ [])) (upd H2 a (exo a (P.cA j) none)) (fun u H3 => u = .non ∧ ∃ (dx : Addr) (fs : List (Str × V)), H3 a = some (exo a (P.cA j) (some dx)) ∧ H3 dx = some (exd dx fs) ∧ H2 dx = none ∧ W (.ref (P.cA j)) (some dx) σ (upd (del H3 a) dx (.xd fs))) fun _ _ _ => False) := fun {d g2 Z2} R2 r2 p2 => by
    intro a ha
    cases e1 : iniD den d with
    | none => simp only [e1] at p2; exact p2.elim
    | some d' =>
      simp only [e1] at p2
      have za := R2.zn ha
      refine ⟨a, v, d, Z2, d', rfl, hK ▸ T, hno, upd_same, za, same_out R2.sub za, r2, e1, fun y' H' Z' dx L ry hx na => ⟨rfl, dx, _, upd_same, by rw [upd_ne na, upd_same], ?_, ?_⟩⟩
      · cases e2 : H1 dx with
        | none => rfl
        | some o =>
          have := L.fr dx o (by rw [upd_ne na]; exact e2) (fun z => nomatch z)
          rw [hx] at this; cases this
      · -- the heap at the end
        have zx : Z' dx = none := by
          cases e2 : Z' dx with
          | none => rfl
          | some o => have := L.sub dx o e2; rw [hx] at this; cases this
        have za' : Z' a = none := by rw [L.zf a _ upd_same]; exact za
        have fin_at : ∀ b, b ≠ a → b ≠ dx → (upd (del (upd (upd H' dx (exd dx [(f, y')])) a (exo a (P.cA j) (some dx))) a) dx (.xd [(f, y')])) b = H' b := fun b h1 h2 => by
          rw [upd_ne h2, del_ne h1, upd_ne h1, upd_ne h2]
        have L2' : Left P.K H1 Z2 none none (upd (del (upd (upd H' dx (exd dx [(f, y')])) a (exo a (P.cA j) (some dx))) a) dx (.xd [(f, y')])) (upd Z' dx (.xd [(f, y')])) := by
          refine ⟨L.sz.trans (same_new zx), fun b o eb => ?_, fun b o eb => ?_, fun b o eb _ => ?_, fun b z => nomatch z⟩
          · by_cases hb : b = dx
            · subst hb; rw [upd_same] at eb ⊢; exact eb
            · rw [upd_ne hb] at eb
              have hba : b ≠ a := fun z => by rw [z, za'] at eb; cases eb
              rw [fin_at b hba hb]; exact L.sub b o eb
          · have hba : b ≠ a := fun z => by rw [z, ha] at eb; cases eb
            have hbx : b ≠ dx := fun z => by
              have := L.fr b o (by rw [upd_ne hba]; exact eb) (fun z => nomatch z)
              rw [z, hx] at this; cases this
            rw [upd_ne hbx]; exact L.zf b o (by rw [upd_ne hba]; exact eb)
          · have hba : b ≠ a := fun z => by rw [z, ha] at eb; cases eb
            have hf := L.fr b o (by rw [upd_ne hba]; exact eb) (fun z => nomatch z)
            have hbx : b ≠ dx := fun z => by rw [z, hx] at hf; cases hf
            rw [fin_at b hba hbx]; exact hf
        exact p2 dx y' σ _ _ upd_same (dpM (same_new zx) ry) (R2.left L2')
  have go : ∀ {d : D} {g2 : List Sl} {Z2 : Hp}, Rel P c g2 σ H1 Z2 → Dq P.K Z2 v d → Post (fun fl g' => FlP P c Dd Z g' fl) (exS P c W) ((fun g => match iniD den d with
      | some d' => Res.exn j f d' g
      | none => .stuck) g2) → _ := fun {d g2 Z2} R2 r2 p2 => (⟨(by simp : [v].length ≤ 1000), fin R2 r2 p2⟩ : [v].length ≤ 1000 ∧ _)
  cases ev with
  | fro d => exact go R1 vr p1
  | own ds =>
    obtain ⟨b, vs, rfl, h1, h2, h3, r, n⟩ := vr
    exact go (R1.frz h1 h3 h2 n) (.lst upd_same (dpAM (same_new h2) r)) p1
  | var i =>
    obtain ⟨d, g3, Z2, s2, R2, r2, p2⟩ := esc_ok R1 (ev := .var i) vr (post_bnd.mp p1)
    exact go R2 r2 p2
end Mw
namespace Mw
open PySem L2

/-! ## tests: is None -/
section
variable {X : Cx} {P : Pa} {W : WX} {e a b : Expr} {pos pos' : Pos}
theorem mt_tB {da : SM EV} {t : TE} (h : PT X e (tB t)) (w : ∀ σ H Q, TEo P W da σ H Q → t σ H Q) : PT X e (TTo P W (tstE da)) :=
  ptW h fun σ H Q ⟨c, g, Z, R, p⟩ => w σ H _ (tst_on (k := fun b => ret b) R (post_bnd.mpr (post_mono p (fun _ _ q => q) fun _ _ _ _ q => q)) fun k g1 H1 Z1 s1 R1 p1 => ⟨k, rfl, (show ∀ H' Z', Same Z Z' → Rel P c g1 σ H' Z' → Q k H' from p1) H1 Z1 s1 R1⟩)
theorem w_isN {da : SM EV} : ∀ σ H Q, TEo P W (op1 isNF da) σ H Q → tIsN (TEo P W da) σ H Q := fun σ H Q ⟨c, g, Z, R, p⟩ => TEo.on R p fun x g1 v H1 Z1 s1 R1 vx p1 =>
  app1_ok (r := fun x H Q => Q (.bl (decide (x = .non))) H) (fun H Z x d o Q s h e q => by cases e; rw [rr_non h]; exact q _ (.bl _)) R1 vx p1 fun o q => out_fin R1 s1 q
theorem w_noN {da : SM EV} : ∀ σ H Q, TEo P W (op1 noNF da) σ H Q → tNotN (TEo P W da) σ H Q := fun σ H Q ⟨c, g, Z, R, p⟩ => TEo.on R p fun x g1 v H1 Z1 s1 R1 vx p1 =>
  app1_ok (r := fun x H Q => Q (.bl (!decide (x = .non))) H) (fun H Z x d o Q s h e q => by cases e; rw [rr_non h]; exact q _ (.bl _)) R1 vx p1 fun o q => out_fin R1 s1 q
theorem mt_isN {j} {da : SM EV} (ha : PE X a (TEo P W da)) : PT X (.Compare a [.Is] [.Constant .none j pos'] pos) (TTo P W (tstE (op1 isNF da))) := mt_tB (pt_cmp (pc_isN ha)) w_isN
theorem mt_noN {j} {da : SM EV} (ha : PE X a (TEo P W da)) : PT X (.Compare a [.IsNot] [.Constant .none j pos'] pos) (TTo P W (tstE (op1 noNF da))) := mt_tB (pt_cmp (pc_notN ha)) w_noN

/-! ## a, b = e -/
def asgT (t : Tg) (da : SM EV) : SM Fl := bnd da fun ev => bnd (esc (frz ev)) fun d => bnd (t.put d) fun _ => ret .nx
end

/-! ## the script -/
def vrS (i : Nat) : SM EV := fun g => match g[i]? with
  | some (.scr _) => .ok (.var i, g)
  | _ => .stuck
def scrE (i n : Nat) : SM EV := fun g => match g[i]? with
  | some (.scr ns) => .ok (.own ((ns.take n).map PyData.int), g)
  | _ => .stuck
section
variable {X : Cx} {P : Pa} {W : WX} {pos : Pos}
theorem me_varS {i : Nat} {x : Str} (h : PE X (.Name x pos) (tVar i)) : PE X (.Name x pos) (TEo P W (vrS i)) := peW h fun σ H Q ⟨c, g, Z, R, p⟩ => by
  unfold vrS at p
  cases es : g[i]? with
  | none => rw [es] at p; exact p.elim
  | some s =>
    rw [es] at p
    cases s with
    | scr ns => obtain ⟨a, e1, r⟩ := R.sl i _ es; exact ⟨_, e1, p _ H Z (Same.refl _) R e1⟩
    | un => exact p.elim
    | exc k f p' => exact p.elim
    | own ds => exact p.elim
    | bor ds => exact p.elim
    | fro d => exact p.elim
theorem cut_n (xs : List V) (n : Nat) : cutV xs none (some (n : Int)) = xs.take n := by
  unfold cutV
  rw [HT.sIx_none, show HT.sIx xs.length xs.length (some (n : Int)) = min n xs.length from HT.sIx_nat xs.length xs.length n, List.drop_zero, Nat.sub_zero]
  by_cases h : n ≤ xs.length
  · rw [Nat.min_eq_left h]
  · rw [Nat.min_eq_right (by omega), List.take_of_length_le (Nat.le_refl _), List.take_of_length_le (by omega)]
theorem me_scr {i n : Nat} {x : Str} {p2 p3 p4 : Pos} {j : Nat} (hK : P.K = X.K) (h : PE X (.Name x p4) (tVar i)) : PE X (.Subscript (.Name x p4) (.Slice none (some (.Constant (.int (n : Nat)) j p3)) none p2) pos) (TEo P W (scrE i n)) :=
  peW (pe_slice sl_list h po_none (po_some pe_int)) fun σ H Q ⟨c, g, Z, R, p⟩ => by
    unfold scrE at p
    cases es : g[i]? with
    | none => rw [es] at p; exact p.elim
    | some s =>
      rw [es] at p
      cases s with
      | un => exact p.elim
      | exc k f p' => exact p.elim
      | own ds => exact p.elim
      | bor ds => exact p.elim
      | fro d => exact p.elim
      | scr ns =>
        obtain ⟨a, e1, r⟩ := R.sl i _ es
        refine ⟨_, e1, ⟨_, rfl, a, _, rfl, hK ▸ R.sub.seq r, fun q hq => ?_⟩⟩
        have p : ∀ v H' Z', Same Z Z' → Rel P c g σ H' Z' → VR P c g σ H' Z' v (.own ((ns.take n).map PyData.int)) → Q v H' := p
        refine p _ _ Z (Same.refl _) (R.newH hq) ⟨q, _, rfl, upd_same, R.zn hq, R.dom hq, ?_, fun k hk ek => ?_⟩
        · rw [show ((n : Nat) : Int) = ((n : Nat) : Int) from rfl, cut_n, ← List.map_take]; exact dpA_of_ints _
        · cases e2 : g[k]? with
          | none => rw [e2] at hk; cases hk
          | some t =>
            rw [e2] at hk
            cases t with
            | own ds => obtain ⟨b, vs, e3, h1, _⟩ := R.sl k _ e2; rw [ek] at e3; cases e3; rw [hq] at h1; cases h1
            | un => cases hk
            | fro _ => cases hk
            | bor _ => cases hk
            | exc _ _ _ => cases hk
            | scr _ => cases hk
end

/-! ## defs, told -/
structure Df (P : Program) (w : World) (K : PySem.W.Frag) (mg : Str → Option Value) (base : Heap) (cA : Nat → Addr) (x : Str) (n k : Nat) (F : Fd) : Prop where
  ex : ∃ (f : Addr) (fd : FuncData) (ps : List Str), FnOk P w K mg base (L2.CX P w) k f fd ps (SpD K cA n F) ∧ mg x = some (.ref f) ∧ PySem.W.keepIn K (.ref f) = true ∧ Binds K fd ps []
  len : ∀ as : List Sl, as.length ≠ n → F as = .stuck
section
variable {X : Cx} {P : Pa} {W : WX} {e : Expr} {es : List Expr} {pos p0 : Pos} {x : Str} {k n : Nat} {F : Fd}
theorem me_callD {da : SM (List EV)} (D : Df X.prog X.w X.K X.mg X.base P.cA x n k F) (hK : X.K = P.K) (hr : Room k X.A) (hg : Gl X x) (tk : Takes X W)
    (ha : PA X (e :: es) (TAo P W da)) (hdb : (x == ("__debug__" : Str)) = false := by decide) (he : starEach (e :: es) X.env = (false, eval e X.env) :: starEach es X.env := by rfl) (hpl : (backTo pos (starEach es X.env)).any (·.1) = false := by rfl) :
    PE X (.Call (.Name x p0) (e :: es) [] pos) (TEo P W (callE F da)) := by
  obtain ⟨f, fd, ps, G, hm, hk, hb⟩ := D.ex
  rw [hK] at G
  exact me_call (by rw [hK]; exact G) D.len hr hg hm hk hb tk ha hdb he hpl
theorem me_callBD {da : SM (List EV)} (D : Df X.prog X.w X.K X.mg X.base P.cA x n k F) (hK : X.K = P.K) (hr : Room k X.A) (hg : Gl X x) (tk : Takes X W)
    (ha : PA X (e :: es) (TAo P W da)) (hdb : (x == ("__debug__" : Str)) = false := by decide) (he : starEach (e :: es) X.env = (false, eval e X.env) :: starEach es X.env := by rfl) (hpl : (backTo pos (starEach es X.env)).any (·.1) = false := by rfl) :
    PE X (.Call (.Name x p0) (e :: es) [] pos) (TEo P W (callB F da)) := by
  obtain ⟨f, fd, ps, G, hm, hk, hb⟩ := D.ex
  rw [hK] at G
  exact me_callB' (by rw [hK]; exact G) D.len hr hg hm hk hb tk ha hdb he hpl
end

/-! ## sum, max, min of a tuple of ints -/
section
variable {prog : Program} {w : World} {A : Around} {E : Value → Shared → Prop} {s : Shared} {l : Addr}
theorem iter_tupA {items : Array Value} {Q : Value → Shared → Prop} (hl : s.heap.IsTuple l items)
    (h : ∀ s₂ : Shared, s₂ = { s with heap := s.heap.push { cls := .type "tuple_iterator", data := .fields #[.ref l, .int 0 0] } } →
      (s₂.heap.IsTupleIter s.heap.objs.size l 0 ∧ s₂.heap.IsTuple l items) → (∀ b ∈ [s.heap.objs.size, l], b < s₂.heap.objs.size) → l ≠ s.heap.objs.size → Q (.ref s.heap.objs.size) s₂) :
    wpAny (model prog w) A (pyIter (.ref l)) Q E s := by
  have hlt : l < s.heap.objs.size := by obtain ⟨_, e, _⟩ := hl; exact Heap.lt_size e
  refine wpAny_pyIter_tuple hl (h _ rfl ⟨⟨_, Heap.get?_push_size _ rfl, rfl, rfl⟩, hl.push _⟩ (fun b hb => ?_) (Nat.ne_of_lt hlt))
  show b < (s.heap.push _).objs.size
  rw [Heap.size_push]
  rcases List.mem_cons.mp hb with rfl | hb
  · exact Nat.lt_succ_self _
  · rcases List.mem_cons.mp hb with rfl | hb
    · exact Nat.lt_succ_of_lt hlt
    · cases hb
theorem old_keptT {h' : Heap} (hk : ∀ b o, b ∉ [s.heap.objs.size] → (s.heap.push { cls := .type "tuple_iterator", data := .fields #[.ref l, .int 0 0] }).get? b = some o → h'.get? b = some o) :
    ∀ b o, s.heap.get? b = some o → h'.get? b = some o := fun b o e => by
  refine hk b o (fun hm => ?_) (Heap.get?_push_of_some _ e)
  rcases List.mem_cons.mp hm with e1 | hm
  · exact absurd (e1 ▸ Heap.lt_size e) (Nat.lt_irrefl _)
  · cases hm
end
def rSumT (K : PySem.W.Frag) : List V → Hp → VK → Prop := fun vs H Q => ∃ (a : Addr) (ns : List Int), vs = [V.ref a] ∧ SqT K H a (ns.map V.int) ∧ Q (.int ns.sum) H
def rMaxT (K : PySem.W.Frag) : List V → Hp → VK → Prop := fun vs H Q => ∃ (a : Addr) (ns : List Int), vs = [V.ref a] ∧ SqT K H a (ns.map V.int) ∧ 0 < ns.length ∧ ∀ m, m ∈ ns → (∀ y, y ∈ ns → y ≤ m) → Q (.int m) H
def rMinT (K : PySem.W.Frag) : List V → Hp → VK → Prop := fun vs H Q => ∃ (a : Addr) (ns : List Int), vs = [V.ref a] ∧ SqT K H a (ns.map V.int) ∧ 0 < ns.length ∧ ∀ m, m ∈ ns → (∀ y, y ∈ ns → m ≤ y) → Q (.int m) H
section
variable {X : Cx}
open PySem.Spec PyProof.Rows
theorem nums_of {ns : List Int} {its : List Value} (hi : IntsAre its ns) : ∃ xs, its.toArray = intItems xs ∧ (xs.map (·.1)).toList = ns := by
  obtain ⟨xs, e⟩ := hi.allInts.items
  have hn : numsOf (intItems xs).toList = ns := by rw [← e]; exact hi.numsOf
  rw [nums_intItems] at hn
  exact ⟨xs, e, by simpa using hn⟩
theorem cr_sumT (hc : X.calm = true) : CallR X (.builtin "sum") (rSumT X.K) := by
  intro pins s σ H vs us Q I r h
  obtain ⟨a, ns, rfl, hs, q⟩ := h
  obtain ⟨its, rv, hl, _⟩ := I.tuple hs
  rw [Vals.ref1 r]
  obtain ⟨xs, e⟩ := rv.ints.allInts.items
  have hn : numsOf (intItems xs).toList = ns := by rw [← e]; exact rv.ints.numsOf
  rw [nums_intItems] at hn
  rw [e] at hl
  have hl' : s.heap.IsTuple a (intItems xs) := hl
  refine call_sum_walkG (iter_tupA hl' fun s₂ e st hfp hlI => ?_)
  subst e
  refine ⟨_, _, _, _, _, _, numAt xs, rfl, Walks.tuple (A := X.A.in1) (I.ok.hd hc) _ a hlI (intItems xs), st, hfp, (fun _ _ => intItems_at), fun h' tk t' hk => ?_⟩
  refine ⟨.int _, H, I.kept (old_keptT hk), ⟨t', ?_⟩, q⟩
  rw [preSum_eq, List.take_of_length_le (by simp [intItems]), hn]
theorem cr_maxT (hc : X.calm = true) : CallR X (.builtin "max") (rMaxT X.K) := by
  intro pins s σ H vs us Q I r h
  obtain ⟨a, ns, rfl, hs, hne, q⟩ := h
  obtain ⟨its, rv, hl, _⟩ := I.tuple hs
  rw [Vals.ref1 r]
  obtain ⟨xs, e⟩ := rv.ints.allInts.items
  have hn : numsOf (intItems xs).toList = ns := by rw [← e]; exact rv.ints.numsOf
  rw [nums_intItems] at hn
  subst hn
  rw [e] at hl
  have hl' : s.heap.IsTuple a (intItems xs) := hl
  have hsz : 0 < xs.size := by simpa using hne
  refine call_max_walk (iter_tupA hl' fun s₂ e st hfp hlI => ?_)
  subst e
  refine ⟨_, _, _, _, _, _, _, rfl, Walks.tuple (A := X.A.in1) (I.ok.hd hc) _ a hlI (intItems xs), st, hfp, by simpa [intItems] using hsz, CmpOf.ints_gt (numAt xs) (fun _ _ => intItems_at), fun v h' tk hP hk => ?_⟩
  have hv : (intItems xs)[argBest (fun i j => decide (numAt xs i > numAt xs j)) (xs.size - 1)]? = some v := by simpa [intItems] using hP
  obtain ⟨t, rfl⟩ := intItems_at hv
  obtain ⟨h1, h2⟩ := argBest_gt (numAt xs) (xs.size - 1)
  refine ⟨.int _, H, I.kept (old_keptT hk), ⟨t, rfl⟩, q _ ?_ fun y hy => ?_⟩
  · rw [numAt_eq]; exact PySem.getD_mem (by rw [List.length_map, Array.length_toList]; omega)
  · obtain ⟨j, hj, rfl⟩ := mem_getD hy
    rw [List.length_map, Array.length_toList] at hj
    rw [← numAt_eq]; exact h2 j (by omega)
theorem cr_minT (hc : X.calm = true) : CallR X (.builtin "min") (rMinT X.K) := by
  intro pins s σ H vs us Q I r h
  obtain ⟨a, ns, rfl, hs, hne, q⟩ := h
  obtain ⟨its, rv, hl, _⟩ := I.tuple hs
  rw [Vals.ref1 r]
  obtain ⟨xs, e⟩ := rv.ints.allInts.items
  have hn : numsOf (intItems xs).toList = ns := by rw [← e]; exact rv.ints.numsOf
  rw [nums_intItems] at hn
  subst hn
  rw [e] at hl
  have hl' : s.heap.IsTuple a (intItems xs) := hl
  have hsz : 0 < xs.size := by simpa using hne
  refine call_min_walk (iter_tupA hl' fun s₂ e st hfp hlI => ?_)
  subst e
  refine ⟨_, _, _, _, _, _, _, rfl, Walks.tuple (A := X.A.in1) (I.ok.hd hc) _ a hlI (intItems xs), st, hfp, by simpa [intItems] using hsz, CmpOf.ints_lt (numAt xs) (fun _ _ => intItems_at), fun v h' tk hP hk => ?_⟩
  have hv : (intItems xs)[argBest (fun i j => decide (numAt xs i < numAt xs j)) (xs.size - 1)]? = some v := by simpa [intItems] using hP
  obtain ⟨t, rfl⟩ := intItems_at hv
  obtain ⟨h1, h2⟩ := argBest_lt (numAt xs) (xs.size - 1)
  refine ⟨.int _, H, I.kept (old_keptT hk), ⟨t, rfl⟩, q _ ?_ fun y hy => ?_⟩
  · rw [numAt_eq]; exact PySem.getD_mem (by rw [List.length_map, Array.length_toList]; omega)
  · obtain ⟨j, hj, rfl⟩ := mem_getD hy
    rw [List.length_map, Array.length_toList] at hj
    rw [← numAt_eq]; exact h2 j (by omega)
end
end Mw
namespace Mw
open PySem L2
section
variable {X : Cx} {P : Pa} {W : WX} {e tg : Expr} {pos : Pos}
theorem ms_asgT {t : Tg} {da : SM EV} (he : PE X e (TEo P W da)) (hg : PG X tg (TGo P t)) (hs : swapsWithSole [tg] e pos.line X.env = pure false := by rfl) (hw : swappedStores [tg] e X.env = pure none := by rfl) (h1 : (assignEach [tg] X.env).map (·.2) = [assign tg X.env] := by rfl) : PS X (.Assign [tg] e pos) (TSo P W (asgT t da)) :=
  psW (ps_asg he hg hs hw h1) fun Dd σ H ⟨c, g, Z, R, p⟩ => TEo.onS R p fun ev g1 v H1 Z1 s1 R1 vr p1 => by
    obtain ⟨Z1', s1', R1', vp⟩ := vr.frz R1
    obtain ⟨d, g2, Z2, s2, R2, r2, p2⟩ := esc_ok R1' vp (post_bnd.mp p1)
    refine ⟨c, g2, Z2, d, R2, r2, put_post (ex := exS P c W) (post_mono (post_bnd.mp p2) (fun _ g3 q3 vs R3 => ?_) fun _ _ _ _ q => q)⟩
    exact (show ∀ σ' H' Z', Same Z Z' → Rel P c g3 σ' H' Z' → Dd.nx σ' H' from q3) _ _ _ ((s1.trans s1').trans s2) R3
end
/-- sum, max, min, of a list or a tuple -/
def seqF (f : List D → Option Out) : List D → Option Out
  | [.list es] => f [.list es]
  | [.tuple es] => f [.list es]
  | _ => none
section
variable {K : PySem.W.Frag}
theorem tints {H Z : Hp} {xs : List V} {ds : List D} {ns : List Int} (s : Same Z H) (h : RrL K H Z xs [.tuple ds]) (e : intsOf ds = some ns) : ∃ a, xs = [.ref a] ∧ SqT K H a (ns.map V.int) := by
  obtain ⟨v, rfl, r⟩ := one_inv h
  obtain ⟨a, vs, rfl, h1, r1⟩ := r.tup s
  rw [intsOf_map e] at r1
  exact ⟨a, rfl, by rw [← dpA_ints r1]; exact h1⟩
theorem s_sumA : SoundN K (fun xs H Q => rSum K xs H Q ∨ rSumT K xs H Q) (seqF sumF) := by
  intro H Z xs ds o Q s h e q
  unfold seqF at e
  split at e
  · exact .inl (s_sum H Z xs _ o Q s h e q)
  · rename_i es
    unfold sumF at e
    simp only at e
    cases e1 : intsOf es with
    | none => rw [e1] at e; cases e
    | some ns => rw [e1] at e; cases e; obtain ⟨a, rfl, h1⟩ := tints s h e1; exact .inr ⟨a, ns, rfl, h1, q _ (.int _)⟩
  · cases e
theorem s_maxA : SoundN K (fun xs H Q => rMax K xs H Q ∨ rMaxT K xs H Q) (seqF maxLF) := by
  intro H Z xs ds o Q s h e q
  unfold seqF at e
  split at e
  · exact .inl (s_maxL H Z xs _ o Q s h e q)
  · rename_i es
    unfold maxLF at e
    simp only at e
    cases e1 : intsOf es with
    | none => rw [e1] at e; cases e
    | some ns =>
      rw [e1] at e
      obtain ⟨hb, e⟩ := gd_some e; cases e
      obtain ⟨a, rfl, h1⟩ := tints s h e1
      cases ns with
      | nil => cases hb
      | cons x r =>
        refine .inr ⟨a, _, rfl, h1, Nat.zero_lt_succ _, fun m hm hle => ?_⟩
        obtain ⟨k1, k2⟩ := foldmax r x
        have : m = maxL (x :: r) := Int.le_antisymm (k2 m hm) (hle _ k1)
        rw [this]; exact q _ (.int _)
  · cases e
theorem s_minA : SoundN K (fun xs H Q => rMin K xs H Q ∨ rMinT K xs H Q) (seqF minLF) := by
  intro H Z xs ds o Q s h e q
  unfold seqF at e
  split at e
  · exact .inl (s_minL H Z xs _ o Q s h e q)
  · rename_i es
    unfold minLF at e
    simp only at e
    cases e1 : intsOf es with
    | none => rw [e1] at e; cases e
    | some ns =>
      rw [e1] at e
      obtain ⟨hb, e⟩ := gd_some e; cases e
      obtain ⟨a, rfl, h1⟩ := tints s h e1
      cases ns with
      | nil => cases hb
      | cons x r =>
        refine .inr ⟨a, _, rfl, h1, Nat.zero_lt_succ _, fun m hm hle => ?_⟩
        obtain ⟨k1, k2⟩ := foldmin r x
        have : m = minL (x :: r) := Int.le_antisymm (hle _ k1) (k2 m hm)
        rw [this]; exact q _ (.int _)
  · cases e
end
section
variable {X : Cx}
theorem c_sumA (hc : X.calm = true) : CallR X (.builtin "sum") (fun xs H Q => rSum X.K xs H Q ∨ rSumT X.K xs H Q) := CallR.or (cr_sum hc) (cr_sumT hc)
theorem c_maxA (hc : X.calm = true) : CallR X (.builtin "max") (fun xs H Q => rMax X.K xs H Q ∨ rMaxT X.K xs H Q) := CallR.or (cr_max hc) (cr_maxT hc)
theorem c_minA (hc : X.calm = true) : CallR X (.builtin "min") (fun xs H Q => rMin X.K xs H Q ∨ rMinT X.K xs H Q) := CallR.or (cr_min hc) (cr_minT hc)
end
end Mw
namespace Mw
open PySem L2
theorem hu64 {k : Nat} {A : Around} (hr : Room k A) : A.units + 64 < cLine := by have := hr.un; omega
/-- a class of errors that is called -/
structure Rz (P : Program) (w : World) (K : PySem.W.Frag) (mg : Str → Option Value) (base : Heap) (cA : Nat → Addr) (x : Str) (j : Nat) (f : Str) (den : SM EV) (k : Nat) : Prop where
  ex : ∃ (fI : Addr) (fd : FuncData) (ps : List Str), OexC K (cA j) ∧ PySem.W.findIn K (.ref (cA j)) "__init__" = some (some (.ref fI)) ∧ PySem.W.typeIn K (.ref fI) = some (.type "function") ∧ PySem.W.findIn K (.ref (cA j)) f = some none ∧
    FnOk P w K mg base (L2.CX P w) k fI fd ps (SpI K (cA j) f den) ∧ Binds K fd ps []
  m : mg x = some (.ref (cA j))
theorem ms_raiseD {X : Cx} {P : Pa} {W : WX} {x f : Str} {k j : Nat} {den da : SM EV} {e : Expr} {p pos pos' : Pos} (R : Rz X.prog X.w X.K X.mg X.base P.cA x j f den k) (hK : X.K = P.K) (hr : Room (k + 1) X.A) (tk : Takes X W) (hc : X.calm = true) (hg : Gl X x) (ha : PE X e (TEo P W da))
    (hdb : (x == ("__debug__" : Str)) = false := by decide) (he : starEach (e :: []) X.env = (false, eval e X.env) :: starEach [] X.env := by rfl) (hpl : (backTo pos (starEach [] X.env)).any (·.1) = false := by rfl) :
    PS X (.Raise (some (.Call (.Name x p) [e] [] pos)) none pos') (TSo P W (raiseS j f (iniD den) da)) := by
  obtain ⟨fI, fd, ps, T, iC, tI, hno, F1, hb⟩ := R.ex
  exact ms_raise T hK iC tI (hK ▸ hno) (hK ▸ F1) hr hb tk hc hg R.m ha hdb he hpl
theorem ms_set {X : Cx} {P : Pa} {W : WX} {i : Nat} {x : Str} {e : Expr} {da : SM EV} {pos' pos : Pos} (hN : X.N.Nodup) (hi : X.N[i]? = some x) (hx : Loc X.env.scope x) (he : PE X e (TEo P W da)) (hs : swapsWith e (some (.Name x pos')) pos.line X.env = pure false := by rfl) (hf : X.fn x = true ∨ X.env.scope.names.lookup x = some .local := by first | exact .inl rfl | exact .inr rfl | assumption) :
    PS X (.Assign [.Name x pos'] e pos) (TSo P W (asgS i da)) := ms_asg (ps_set hN hi hx he hs hf) fun _ _ _ h => h
/-- the written part holds a def -/
def DefAt (K : PySem.W.Frag) (x qual : Str) (st : Stmt) (f : Addr) : Prop := ∃ (oc : Value) (od : Option Addr) (kV doc pm : Value) (an : Option Addr) (cdv ct : Value) (osl : Array (Option Value)),
  K.lookup f = some ⟨oc, od, .func (PySem.W.fnOf x qual (defArgs st) (defBody st) (defScope st) .none kV doc pm an cdv ct), osl⟩ ∧ PySem.W.codeIn K cdv qual = true ∧ PySem.W.keepIn K (.ref f) = true
theorem DefAt.fn {K : PySem.W.Frag} {x qual : Str} {st : Stmt} {f : Addr} (D : DefAt K x qual st f) : ∃ fd, L2.Fun K x qual st f fd := by
  obtain ⟨oc, od, kV, doc, pm, an, cdv, ct, osl, l, c, k⟩ := D
  exact ⟨_, fun_mk l c k⟩
/-- a class's own method -/
def meth (st : Stmt) (i : Nat) : Stmt := match st with
  | .ClassDef _ _ _ b _ _ _ _ _ _ _ => b.getD i (.Pass ⟨0, 0, 0, 0⟩)
  | _ => .Pass ⟨0, 0, 0, 0⟩
/-- how a def of so many parameters binds them -/
def Bnd (st : Stmt) (x qual : Str) (ps : List Str) : Prop := ∀ (kV doc pm : Value) (an : Option Addr) (cdv ct : Value) (us : List Value), us.length = ps.length → bindArgs (PySem.W.fnOf x qual (defArgs st) (defBody st) (defScope st) .none kV doc pm an cdv ct) ⟨us, []⟩ = pure (ps.zip us)
theorem df_mk {P : Program} {w : World} {K : PySem.W.Frag} {mg : Str → Option Value} {base : Heap} {cA : Nat → Addr} {x : Str} {st : Stmt} {f : Addr} {n k : Nat} {F : Fd} {ps : List Str} (D : DefAt K x x st f) (B : Bnd st x x ps) (hm : mg x = some (.ref f)) (hl : ∀ as : List Sl, as.length ≠ n → F as = .stuck)
    (h : ∀ fd, L2.Fun K x x st f fd → FnOk P w K mg base (L2.CX P w) k f fd ps (SpD K cA n F)) : Df P w K mg base cA x n k F := by
  obtain ⟨fd, Fu⟩ := D.fn
  exact ⟨⟨f, fd, ps, h fd Fu, hm, Fu.kp, Fu.binds B⟩, hl⟩
theorem Df.is {P : Program} {w : World} {K : PySem.W.Frag} {mg : Str → Option Value} {base : Heap} {cA : Nat → Addr} {x : Str} {n k : Nat} {F : Fd} {f : Addr} (D : Df P w K mg base cA x n k F) (hm : mg x = some (.ref f)) :
    ∃ fd ps, FnOk P w K mg base (L2.CX P w) k f fd ps (SpD K cA n F) ∧ Binds K fd ps [] := by
  obtain ⟨f', fd, ps, G, hm', hk, hb⟩ := D.ex
  rw [hm] at hm'; cases hm'
  exact ⟨fd, ps, G, hb⟩
theorem df_none {P : Program} {w : World} {K : PySem.W.Frag} {mg : Str → Option Value} {base : Heap} {cA : Nat → Addr} {x : Str} {st : Stmt} {f : Addr} {n : Nat} {ps : List Str} (D : DefAt K x x st f) (B : Bnd st x x ps) (hm : mg x = some (.ref f)) : Df P w K mg base cA x n 0 fun _ => .stuck :=
  df_mk D B hm (fun _ _ => rfl) fun fd _ => fn_none n
/-- by depth, where a def calls itself -/
theorem df_rec {P : Program} {w : World} {K : PySem.W.Frag} {mg : Str → Option Value} {base : Heap} {cA : Nat → Addr} {x : Str} {st : Stmt} {f : Addr} {n : Nat} {F : Nat → Fd} {ps : List Str} (D : DefAt K x x st f) (B : Bnd st x x ps) (hm : mg x = some (.ref f)) (h0 : F 0 = fun _ => .stuck) (hl : ∀ m, ∀ as : List Sl, as.length ≠ n → F m as = .stuck)
    (h : ∀ m, Df P w K mg base cA x n m (F m) → ∀ fd, L2.Fun K x x st f fd → FnOk P w K mg base (L2.CX P w) (m + 1) f fd ps (SpD K cA n (F (m + 1)))) : ∀ m, Df P w K mg base cA x n m (F m)
  | 0 => by rw [h0]; exact df_none D B hm
  | m + 1 => df_mk D B hm (hl (m + 1)) (h m (df_rec D B hm h0 hl h m))
end Mw
namespace Mw
open PySem L2
section
variable {K : PySem.W.Frag} {t : Value} {C : Addr} {b : Bool}
theorem kc_ref (h1 : PySem.W.isClsIn K C = true) (h2 : PySem.W.typeIn K (.ref C) = some (.type "type")) (h : PySem.W.subIn K t (.ref C) = some b) : PySem.W.kitCls K t (.ref C) = some b := by
  have e : ((PySem.W.clsIn K C).isSome && PySem.W.typeIn K (.ref C) == some (.type "type")) = true := by
    have h1' : (PySem.W.clsIn K C).isSome = true := h1
    rw [h1', h2] <;> rfl
  show (if ((PySem.W.clsIn K C).isSome && PySem.W.typeIn K (.ref C) == some (.type "type")) = true then PySem.W.subIn K t (.ref C) else none) = some b
  rw [if_pos e]; exact h
theorem kc_ve (h : PySem.W.subIn K t (.type "ValueError") = some b) : PySem.W.kitCls K t (.type "ValueError") = some b := by
  show (if PySem.W.kitMeta "ValueError" = true then PySem.W.subIn K t (.type "ValueError") else none) = some b
  rw [if_pos (by decide +kernel)]; exact h
theorem kit_ne {c : Value} (hn : (t == c) = false) (h : PySem.W.kitCls K t c = some b) : PySem.W.kitOne K t c = some b := by
  unfold PySem.W.kitOne
  rw [hn, if_neg Bool.false_ne_true]; exact h
theorem kit_eq : PySem.W.kitOne K (.ref C) (.ref C) = some true := by
  unfold PySem.W.kitOne
  rw [if_pos (by simp)]
theorem exm_of {c : Value} (hb : PySem.W.subIn K c (.type "BaseException") = some true) (h : PySem.W.kitCls K t c = some b) : PySem.W.exmOne K t c = some b := by
  have e : (PySem.W.subIn K c (.type "BaseException") == some true) = true := by rw [hb] <;> rfl
  unfold PySem.W.exmOne
  rw [if_pos e]; exact h
end
end Mw
namespace Mw
open PySem L2 PySem.Spec PyProof.Rows HT

/-! ## t[::-1] of a tuple -/
section
variable {prog : Program} {w : World} {A : Around} {E : Value → Shared → Prop} {s : Shared}
theorem applied_rev {sl : Addr} {vl vu vs : Value} {n : Nat} {Q : Int × Int × Nat → Shared → Prop} (hs : s.heap.IsSliceOf sl vl vu vs) (pl : IsPart vl none) (pu : IsPart vu none) (ps : IsPart vs (some (-1)))
    (h : Q ((n : Int) - 1, -1, n) s) : wpAny (model prog w) A (Builtin.Slice.sliceApplied (.ref sl) (pure (n : Int))) Q E s := by
  obtain ⟨os, hos, hcs, hds⟩ := id hs
  unfold Builtin.Slice.sliceApplied Builtin.Slice.sliceFields
  refine wpAny_bind (wpAny_bind (wpAny_field hos hds (x := vl) rfl (wpAny_bind (wpAny_field hos hds (x := vu) rfl (wpAny_bind (wpAny_field hos hds (x := vs) rfl (wpAny_pure ?_)))))))
  refine wpAny_bind (slicePart_ ps ?_)
  show wpAny _ _ (if ((-1 : Int) == 0) = true then _ else _) _ _ s
  rw [if_neg (by decide)]
  refine wpAny_bind (slicePart_ pl (wpAny_bind (slicePart_ pu (wpAny_bind (wpAny_pure ?_)))))
  have e : Builtin.Slice.slicePlaces ((n : Int) - 1) (-1) (-1) = n := by
    unfold Builtin.Slice.slicePlaces
    rw [if_neg (by decide)]
    by_cases h : (n : Int) - 1 > -1
    · rw [if_pos h, show (-(-1 : Int)) = 1 by decide, Int.ediv_one]; omega
    · rw [if_neg h]; omega
  show wpAny _ _ (pure ((n : Int) - 1, (-1 : Int), Builtin.Slice.slicePlaces ((n : Int) - 1) (-1) (-1))) _ _ s
  rw [e]
  exact wpAny_pure h
theorem fm_congr {α β : Type} {f g : α → Option β} : ∀ {l : List α}, (∀ x ∈ l, f x = g x) → l.filterMap f = l.filterMap g
  | [], _ => rfl
  | x :: l, h => by
    rw [List.filterMap_cons, List.filterMap_cons, h x List.mem_cons_self, fm_congr fun y hy => h y (List.mem_cons_of_mem _ hy)]
theorem pick_rev (xs : Array Value) : ((List.range xs.size).filterMap fun (k : Nat) => xs[((xs.size : Int) - 1 + (k : Int) * -1).toNat]?).toArray = xs.toList.reverse.toArray := by
  have e : (List.range xs.size).filterMap (fun (k : Nat) => xs[((xs.size : Int) - 1 + (k : Int) * -1).toNat]?) = ((List.range xs.size).map fun k => xs.size - 1 - k).filterMap (xs[·]?) := by
    rw [List.filterMap_map]
    refine fm_congr fun k hk => ?_
    have hk := List.mem_range.mp hk
    have : ((xs.size : Int) - 1 + (k : Int) * -1).toNat = xs.size - 1 - k := by omega
    rw [this]; rfl
  rw [e, PySem.W.krv_range, List.filterMap_reverse, PySem.W.krv_all]
theorem getItem_tuple_rev {t sl : Addr} {items : Array Value} {vl vu vs : Value} {Q : Value → Shared → Prop} (ht : IsTup s.heap t items) (hs : s.heap.IsSliceOf sl vl vu vs) (pl : IsPart vl none) (pu : IsPart vu none) (ps : IsPart vs (some (-1)))
    (h : Q (.ref s.heap.objs.size) { s with heap := s.heap.push { cls := .type "tuple", data := .seq items.toList.reverse.toArray } })
    (hsz : items.size ≤ sizeLine) : wpAny (model prog w) A (getItem (.ref t) (.ref sl)) Q E s := by
  have htake : sizeOk (.seq items.toList.reverse.toArray) := by
    show items.toList.reverse.toArray.size ≤ sizeLine
    rw [List.size_toArray, List.length_reverse, Array.length_toList]; exact hsz
  obtain ⟨os, hos, hcs, hds⟩ := id hs
  have hTs : s.TypeIs (.ref sl) "slice" := ⟨os, hos, hcs⟩
  unfold getItem
  try with_reducible refine wpAny_holding ?_
  first | refine wpAny_bind (wpAny_pure ?_) | skip
  refine wpAny_bind (wpAny_sequenceKey ht.typeIs (by decide) ?_)
  refine wpAny_bind (wpAny_callSpecial?_slot (name := Str.ofString "__getitem__") ht.typeIs PyProof.Rows.slot_tuple_getitem
    (wpAny_call_entry PyProof.Rows.slot_tuple_getitem ht.typeIs entry_tuple_getitem ?_ (args_tuple_getitem _ _)))
  show wpAny _ _ (Builtin.Tuple.tupleItemsOf (.ref t) >>= _) _ _ s
  refine wpAny_bind (tupleItemsOf_ ht ?_)
  refine wpAny_bind (wpAny_typeOf hTs ?_)
  rw [if_pos (by decide)]
  refine wpAny_bind (applied_rev hs pl pu ps ?_)
  have hno : ¬ ((((items.size : Int) - 1) == 0 && (-1 : Int) == 1 && items.size == items.size) = true) := by
    intro q
    rw [Bool.and_eq_true, Bool.and_eq_true] at q
    exact absurd q.1.2 (by decide)
  show wpAny _ _ (if (((items.size : Int) - 1) == 0 && (-1 : Int) == 1 && items.size == items.size) = true then _ else _) _ _ s
  rw [if_neg hno, pick_rev]
  first
    | exact wpAny_bind (m := Builtin.Tuple.tupleExact _) (wpAny_newObj_type (wpAny_pure ⟨_, rfl, wpAny_pure h⟩) htake)
    | exact wpAny_bind (m := Builtin.Tuple.tupleExact _) (wpAny_newObj_type (wpAny_bind (wpAny_pure (wpAny_pure ⟨_, rfl, wpAny_pure h⟩))) htake)
    | exact wpAny_bind (wpAny_bind (m := Builtin.Tuple.tupleExact _) (wpAny_newObj_type (wpAny_pure (wpAny_pure ⟨_, rfl, wpAny_pure h⟩)) htake))
    | exact wpAny_bind (wpAny_bind (m := Builtin.Tuple.tupleExact _) (wpAny_newObj_type (wpAny_pure ⟨_, rfl, wpAny_pure h⟩) htake))
end
section
variable {X : Cx}
def tRevA (K : PySem.W.Frag) (te : TE) : TE := fun σ H Q => te σ H fun x H1 => ∃ a xs, x = .ref a ∧ ((SqL K H1 a xs ∧ ∀ p, H1 p = none → Q (.ref p) (upd H1 p (.lst xs.reverse))) ∨ (SqT K H1 a xs ∧ ∀ p, H1 p = none → Q (.ref p) (upd H1 p (.tup xs.reverse))))
theorem pe_revA {e : Expr} {te : TE} {k : Nat} {p1 p2 p3 pos : Pos} (he : PE X e te) : PE X (.Subscript e (.Slice none none (some (.UnaryOp .USub (.Constant (.int 1) k p1) p2)) p3) pos) (tRevA X.K te) := by
  refine ⟨fun pins s σ H Q I h => ?_⟩
  refine Subscript_ (thn (he.run pins s σ H _ I h) fun v s1 ⟨x, H1, I1, r1, q1⟩ => ?_)
  obtain ⟨a, xs, ex, q⟩ := q1
  subst ex
  cases r1
  have hst : PO X (some (.UnaryOp .USub (.Constant (.int 1) k p1) p2)) (tPart (tUn (rU fun i => .int (-i)) (tC (.int 1)))) := po_some (pe_un un_neg pe_int)
  refine wpAny_Slice (thn (po_none.run pins s1 σ H1 (fun o H2 => o = none ∧ H2 = H1) I1 ⟨rfl, rfl⟩) fun vl s2 ⟨l, H2, I2, pl, el, e2⟩ => ?_)
  subst el e2
  refine thn (po_none.run pins s2 σ H2 (fun o H3 => o = none ∧ H3 = H2) I2 ⟨rfl, rfl⟩) fun vu s3 ⟨u, H3, I3, pu, eu, e3⟩ => ?_
  subst eu e3
  refine thn (hst.run pins s3 σ H3 (fun o H4 => o = some (-1) ∧ H4 = H3) I3 ⟨1, rfl, -1, rfl, rfl, rfl⟩) fun vs s4 ⟨o, H4, I4, ps, eo, e4⟩ => ?_
  subst eo e4
  have I5 : Inv X pins σ H4 { s4 with heap := s4.heap.push { cls := .type "slice", data := .fields #[vl, vu, vs] } } := I4.kept (t' := s4.toks) fun b ob q => Heap.get?_push_of_some _ q
  show wpAny (model X.prog X.w) X.A (subscriptTail e (.Slice none none (some (.UnaryOp .USub (.Constant (.int 1) k p1) p2)) p3) (.ref a) (.ref s4.heap.objs.size)) (EP X pins σ Q) X.xe { s4 with heap := s4.heap.push { cls := .type "slice", data := .fields #[vl, vu, vs] } }
  rcases q with ⟨hx, q⟩ | ⟨hx, q⟩
  · obtain ⟨its, r, ht, hz⟩ := I5.list hx
    have hlen := r.length
    refine tail_any (ops := [.ref a, .ref s4.heap.objs.size]) ht.isList.typeIs (PySem.slot_list_getitem.lookup) ?_ (by with_unfolding_all rfl)
    refine wpAny_getItem_list_slice ht.isList (Heap.IsSliceOf.new _ vl vu vs) pl pu ps (by decide) ?_ (by rw [List.size_toArray]; omega)
    rw [PySem.W.krv_pick]
    refine ⟨.ref _, _, I5.laid (t' := s4.toks) (o := .lst xs.reverse) (fun b ob q => Heap.get?_push_of_some _ q) (Nat.le_refl _) ?_, rfl, q _ (I5.hok.fresh (Nat.le_refl _))⟩
    exact ⟨by rw [List.length_reverse]; exact hz, _, 0, r.reverse, Heap.get?_push_size _ rfl⟩
  · obtain ⟨its, r, ht, hz⟩ := I5.tuple hx
    have hlen := r.length
    refine tail_any (ops := [.ref a, .ref s4.heap.objs.size]) ht.typeIs (PyProof.Rows.slot_tuple_getitem.lookup) ?_ (by with_unfolding_all rfl)
    refine getItem_tuple_rev ht (Heap.IsSliceOf.new _ vl vu vs) pl pu ps ?_ (by rw [List.size_toArray]; omega)
    refine ⟨.ref _, _, I5.laid (t' := s4.toks) (o := .tup xs.reverse) (fun b ob q => Heap.get?_push_of_some _ q) (Nat.le_refl _) ?_, rfl, q _ (I5.hok.fresh (Nat.le_refl _))⟩
    exact ⟨by rw [List.length_reverse]; exact hz, _, r.reverse, IsTup.new _ _⟩
def revA : D → Option Out
  | .list ds => some (.lstN ds.reverse)
  | .tuple ds => some (.tupN ds.reverse)
  | _ => none
theorem me_revA {P : Pa} {W : WX} {a : Expr} {pos : Pos} {k : Nat} {p1 p2 p3 : Pos} {da : SM EV} (hK : X.K = P.K) (ha : PE X a (TEo P W da)) : PE X (.Subscript a (.Slice none none (some (.UnaryOp .USub (.Constant (.int 1) k p1) p2)) p3) pos) (TEo P W (op1 revA da)) :=
  peW (pe_revA ha) fun σ H Q ⟨c, g, Z, R, p⟩ => TEo.on R p fun x g1 v H1 Z1 s1 R1 vx p1 => by
    rw [hK]
    exact app1_ok (r := fun x H1 Q => ∃ a xs, x = .ref a ∧ ((SqL P.K H1 a xs ∧ ∀ p, H1 p = none → Q (.ref p) (upd H1 p (.lst xs.reverse))) ∨ (SqT P.K H1 a xs ∧ ∀ p, H1 p = none → Q (.ref p) (upd H1 p (.tup xs.reverse))))) (fun H Z x d o Q s h e q => by
      cases d with
      | list ds => cases e; obtain ⟨a, vs, rfl, h1, r1⟩ := h.lst s; exact ⟨a, vs, rfl, .inl ⟨SqL.of h1, fun p hp => q p _ hp (dpA_rev r1)⟩⟩
      | tuple ds => cases e; obtain ⟨a, vs, rfl, h1, r1⟩ := h.tup s; exact ⟨a, vs, rfl, .inr ⟨h1, fun p hp => q.2 p _ hp (dpA_rev r1)⟩⟩
      | _ => cases e) R1 vx p1 fun o q => out_fin R1 s1 q
end

/-! ## t * k of a tuple -/
theorem tuple_mul1 (l : Addr) (items : Array Value) (n : Nat) (dd : Option Addr) (sl : Array (Option Value)) (u : Tok) :
    Meets (Builtin.«tuple.__mul__» ⟨[.ref l, .int 1 u], []⟩) (fun _ R s => s.heap.get? l = some { cls := .type "tuple", dict := dd, data := .seq items n, slots := sl } ∧
      R (.ok (.ret (Value.ref l))) s) :=
  .of_wp fun prog w A R s h => by
    obtain ⟨hp, g, d, tk, os⟩ := s
    obtain ⟨hl, h⟩ := h
    have f1 := AutoSeq1.idx_int
    wp_walk using wpAny_loadPart' hl
    exact ⟨_, rfl, h⟩
def rRep1 (K : PySem.W.Frag) : R2 := fun x y H Q => ∃ l xs, x = .ref l ∧ y = .int 1 ∧ SqT K H l xs ∧ Q (.ref l) H
theorem op_rep1 {X : Cx} : OpR X (binaryOp .Mult) (rRep1 X.K) := by
  intro pins s σ H x y v u Q I rx ry h
  obtain ⟨l, xs, rfl, rfl, hT, q⟩ := h
  cases rx
  obtain ⟨t, rfl⟩ := ry
  obtain ⟨its, r, ⟨⟨cls, dd, data, sl⟩, ho, hc, n, hd⟩, hs⟩ := I.tuple hT
  simp only at hc hd
  subst hc hd
  refine wpAny_binaryOp_repeat_ref (T := "tuple") (U := "int") (by decide) ⟨_, ho, rfl⟩ (fun s' => typeIs_int s' 1 t) noFill_tuple_mul F.fills_int_mul F.slot_int_rmul repeat_tuple F.slot_int_index.lookup
    (call_meets F.slot_int_rmul (typeIs_int s 1 t) F.entry_int_rmul (F.args_int_rmul_2 _ _) (int_rmul_tuple 1 t l its.toArray n dd sl)
      ⟨ho, rfl, ⟨_, ho, rfl⟩, call_meets F.slot_tuple_mul ⟨_, ho, rfl⟩ F.entry_tuple_mul (F.args_tuple_mul_2 _ _) (tuple_mul1 l its.toArray n dd sl t) ⟨ho, ?_⟩⟩)
  exact ⟨.ref l, H, I, rfl, q⟩
def mulA : D → D → Option Out
  | .tuple ds, .int k => if k = 1 then some (.val (.tuple ds)) else gd (decide (ds ≠ [] ∧ 2 ≤ k ∧ k ≤ 1000 ∧ ds.length ≤ 1000)) (some (.tupN (List.replicate k.toNat ds).flatten))
  | d, e => mulD d e
def rMulA (K : PySem.W.Frag) : R2 := fun x y H Q => ((rI CMulW fun i j => .int (i * j)) x y H Q ∨ rRep x y H Q) ∨ (rRepT K x y H Q ∨ rRep1 K x y H Q)
theorem o_mulA {X : Cx} : OpR X (binaryOp .Mult) (rMulA X.K) := OpR.or o_mul (OpR.or op_repT op_rep1)
theorem s_mulA {K : PySem.W.Frag} : Sound2 K (rMulA K) mulA := by
  intro H Z x y d e o Q s hx hy h q
  have key : mulD d e = some o → rMulA K x y H Q := fun h => .inl (s_mul H Z x y d e o Q s hx hy h q)
  cases d with
  | tuple ds =>
    cases e with
    | int k =>
      have h : (if k = 1 then some (Out.val (.tuple ds)) else gd (decide (ds ≠ [] ∧ 2 ≤ k ∧ k ≤ 1000 ∧ ds.length ≤ 1000)) (some (.tupN (List.replicate k.toNat ds).flatten))) = some o := h
      obtain ⟨a, vs, e1, h1, r1⟩ := hx.tup s
      by_cases hk : k = 1
      · rw [if_pos hk] at h; cases h
        exact .inr (.inr ⟨a, vs, e1, by rw [hy.int, hk], h1, by rw [← e1]; exact q _ hx.tupz⟩)
      · rw [if_neg hk] at h
        obtain ⟨hb, h⟩ := gd_some h; cases h
        obtain ⟨b1, b2, b3, b4⟩ := of_decide_eq_true hb
        refine .inr (.inl ⟨a, k, vs, e1, hy.int, h1, fun z => b1 ?_, b2, b3, by rw [dpA_len r1]; exact b4, fun p hp => q.2 p _ hp (dpA_rep r1 _)⟩)
        have := dpA_len r1
        rw [z] at this
        exact List.eq_nil_of_length_eq_zero this.symm
    | _ => exact key h
  | _ => exact key h
end Mw
namespace Mw
open PySem L2
/-- a slot that holds nothing or a value -/
def opn : Option D → Sl
  | none => .un
  | some d => .fro d
theorem shp_i (a : Int) : shp (.int a) = true := rfl
theorem eqv_i (a b : Int) : PyData.eqv (.int a) (.int b) = decide (a = b) := by
  show (a == b) = decide (a = b)
  rfl
theorem eqD_ii (a b : Int) : eqD (.int a) (.int b) = some (.val (.bool (decide (a = b)))) := by
  unfold eqD vB gd
  rw [shp_i, shp_i, eqv_i]; rfl
theorem neD_ii (a b : Int) : neD (.int a) (.int b) = some (.val (.bool (!decide (a = b)))) := by
  unfold neD vB gd
  rw [shp_i, shp_i, eqv_i]; rfl
theorem setS_o0 {s : Sl} {o : Option D} {r : List Sl} : setS 0 s (opn o :: r) = .ok (.nx, s :: r) := by cases o <;> rfl
theorem setS_f0 {s : Sl} {d : D} {r : List Sl} : setS 0 s (.fro d :: r) = .ok (.nx, s :: r) := rfl
theorem setS_u0 {s : Sl} {r : List Sl} : setS 0 s (.un :: r) = .ok (.nx, s :: r) := rfl
theorem setS_w0 {s : Sl} {d : List D} {r : List Sl} : setS 0 s (.own d :: r) = .ok (.nx, s :: r) := rfl
theorem setS_o1 {a0 s : Sl} {o : Option D} {r : List Sl} : setS 1 s (a0 :: opn o :: r) = .ok (.nx, a0 :: s :: r) := by cases o <;> rfl
theorem setS_f1 {a0 s : Sl} {d : D} {r : List Sl} : setS 1 s (a0 :: .fro d :: r) = .ok (.nx, a0 :: s :: r) := rfl
theorem setS_u1 {a0 s : Sl} {r : List Sl} : setS 1 s (a0 :: .un :: r) = .ok (.nx, a0 :: s :: r) := rfl
theorem setS_w1 {a0 s : Sl} {d : List D} {r : List Sl} : setS 1 s (a0 :: .own d :: r) = .ok (.nx, a0 :: s :: r) := rfl
theorem setS_o2 {a0 a1 s : Sl} {o : Option D} {r : List Sl} : setS 2 s (a0 :: a1 :: opn o :: r) = .ok (.nx, a0 :: a1 :: s :: r) := by cases o <;> rfl
theorem setS_f2 {a0 a1 s : Sl} {d : D} {r : List Sl} : setS 2 s (a0 :: a1 :: .fro d :: r) = .ok (.nx, a0 :: a1 :: s :: r) := rfl
theorem setS_u2 {a0 a1 s : Sl} {r : List Sl} : setS 2 s (a0 :: a1 :: .un :: r) = .ok (.nx, a0 :: a1 :: s :: r) := rfl
theorem setS_w2 {a0 a1 s : Sl} {d : List D} {r : List Sl} : setS 2 s (a0 :: a1 :: .own d :: r) = .ok (.nx, a0 :: a1 :: s :: r) := rfl
theorem setS_o3 {a0 a1 a2 s : Sl} {o : Option D} {r : List Sl} : setS 3 s (a0 :: a1 :: a2 :: opn o :: r) = .ok (.nx, a0 :: a1 :: a2 :: s :: r) := by cases o <;> rfl
theorem setS_f3 {a0 a1 a2 s : Sl} {d : D} {r : List Sl} : setS 3 s (a0 :: a1 :: a2 :: .fro d :: r) = .ok (.nx, a0 :: a1 :: a2 :: s :: r) := rfl
theorem setS_u3 {a0 a1 a2 s : Sl} {r : List Sl} : setS 3 s (a0 :: a1 :: a2 :: .un :: r) = .ok (.nx, a0 :: a1 :: a2 :: s :: r) := rfl
theorem setS_w3 {a0 a1 a2 s : Sl} {d : List D} {r : List Sl} : setS 3 s (a0 :: a1 :: a2 :: .own d :: r) = .ok (.nx, a0 :: a1 :: a2 :: s :: r) := rfl
theorem setS_o4 {a0 a1 a2 a3 s : Sl} {o : Option D} {r : List Sl} : setS 4 s (a0 :: a1 :: a2 :: a3 :: opn o :: r) = .ok (.nx, a0 :: a1 :: a2 :: a3 :: s :: r) := by cases o <;> rfl
theorem setS_f4 {a0 a1 a2 a3 s : Sl} {d : D} {r : List Sl} : setS 4 s (a0 :: a1 :: a2 :: a3 :: .fro d :: r) = .ok (.nx, a0 :: a1 :: a2 :: a3 :: s :: r) := rfl
theorem setS_u4 {a0 a1 a2 a3 s : Sl} {r : List Sl} : setS 4 s (a0 :: a1 :: a2 :: a3 :: .un :: r) = .ok (.nx, a0 :: a1 :: a2 :: a3 :: s :: r) := rfl
theorem setS_w4 {a0 a1 a2 a3 s : Sl} {d : List D} {r : List Sl} : setS 4 s (a0 :: a1 :: a2 :: a3 :: .own d :: r) = .ok (.nx, a0 :: a1 :: a2 :: a3 :: s :: r) := rfl
theorem setS_o5 {a0 a1 a2 a3 a4 s : Sl} {o : Option D} {r : List Sl} : setS 5 s (a0 :: a1 :: a2 :: a3 :: a4 :: opn o :: r) = .ok (.nx, a0 :: a1 :: a2 :: a3 :: a4 :: s :: r) := by cases o <;> rfl
theorem setS_f5 {a0 a1 a2 a3 a4 s : Sl} {d : D} {r : List Sl} : setS 5 s (a0 :: a1 :: a2 :: a3 :: a4 :: .fro d :: r) = .ok (.nx, a0 :: a1 :: a2 :: a3 :: a4 :: s :: r) := rfl
theorem setS_u5 {a0 a1 a2 a3 a4 s : Sl} {r : List Sl} : setS 5 s (a0 :: a1 :: a2 :: a3 :: a4 :: .un :: r) = .ok (.nx, a0 :: a1 :: a2 :: a3 :: a4 :: s :: r) := rfl
theorem setS_w5 {a0 a1 a2 a3 a4 s : Sl} {d : List D} {r : List Sl} : setS 5 s (a0 :: a1 :: a2 :: a3 :: a4 :: .own d :: r) = .ok (.nx, a0 :: a1 :: a2 :: a3 :: a4 :: s :: r) := rfl
theorem setS_o6 {a0 a1 a2 a3 a4 a5 s : Sl} {o : Option D} {r : List Sl} : setS 6 s (a0 :: a1 :: a2 :: a3 :: a4 :: a5 :: opn o :: r) = .ok (.nx, a0 :: a1 :: a2 :: a3 :: a4 :: a5 :: s :: r) := by cases o <;> rfl
theorem setS_f6 {a0 a1 a2 a3 a4 a5 s : Sl} {d : D} {r : List Sl} : setS 6 s (a0 :: a1 :: a2 :: a3 :: a4 :: a5 :: .fro d :: r) = .ok (.nx, a0 :: a1 :: a2 :: a3 :: a4 :: a5 :: s :: r) := rfl
theorem setS_u6 {a0 a1 a2 a3 a4 a5 s : Sl} {r : List Sl} : setS 6 s (a0 :: a1 :: a2 :: a3 :: a4 :: a5 :: .un :: r) = .ok (.nx, a0 :: a1 :: a2 :: a3 :: a4 :: a5 :: s :: r) := rfl
theorem setS_w6 {a0 a1 a2 a3 a4 a5 s : Sl} {d : List D} {r : List Sl} : setS 6 s (a0 :: a1 :: a2 :: a3 :: a4 :: a5 :: .own d :: r) = .ok (.nx, a0 :: a1 :: a2 :: a3 :: a4 :: a5 :: s :: r) := rfl
theorem setS_o7 {a0 a1 a2 a3 a4 a5 a6 s : Sl} {o : Option D} {r : List Sl} : setS 7 s (a0 :: a1 :: a2 :: a3 :: a4 :: a5 :: a6 :: opn o :: r) = .ok (.nx, a0 :: a1 :: a2 :: a3 :: a4 :: a5 :: a6 :: s :: r) := by cases o <;> rfl
theorem setS_f7 {a0 a1 a2 a3 a4 a5 a6 s : Sl} {d : D} {r : List Sl} : setS 7 s (a0 :: a1 :: a2 :: a3 :: a4 :: a5 :: a6 :: .fro d :: r) = .ok (.nx, a0 :: a1 :: a2 :: a3 :: a4 :: a5 :: a6 :: s :: r) := rfl
theorem setS_u7 {a0 a1 a2 a3 a4 a5 a6 s : Sl} {r : List Sl} : setS 7 s (a0 :: a1 :: a2 :: a3 :: a4 :: a5 :: a6 :: .un :: r) = .ok (.nx, a0 :: a1 :: a2 :: a3 :: a4 :: a5 :: a6 :: s :: r) := rfl
theorem setS_w7 {a0 a1 a2 a3 a4 a5 a6 s : Sl} {d : List D} {r : List Sl} : setS 7 s (a0 :: a1 :: a2 :: a3 :: a4 :: a5 :: a6 :: .own d :: r) = .ok (.nx, a0 :: a1 :: a2 :: a3 :: a4 :: a5 :: a6 :: s :: r) := rfl
theorem setS_o8 {a0 a1 a2 a3 a4 a5 a6 a7 s : Sl} {o : Option D} {r : List Sl} : setS 8 s (a0 :: a1 :: a2 :: a3 :: a4 :: a5 :: a6 :: a7 :: opn o :: r) = .ok (.nx, a0 :: a1 :: a2 :: a3 :: a4 :: a5 :: a6 :: a7 :: s :: r) := by cases o <;> rfl
theorem setS_f8 {a0 a1 a2 a3 a4 a5 a6 a7 s : Sl} {d : D} {r : List Sl} : setS 8 s (a0 :: a1 :: a2 :: a3 :: a4 :: a5 :: a6 :: a7 :: .fro d :: r) = .ok (.nx, a0 :: a1 :: a2 :: a3 :: a4 :: a5 :: a6 :: a7 :: s :: r) := rfl
theorem setS_u8 {a0 a1 a2 a3 a4 a5 a6 a7 s : Sl} {r : List Sl} : setS 8 s (a0 :: a1 :: a2 :: a3 :: a4 :: a5 :: a6 :: a7 :: .un :: r) = .ok (.nx, a0 :: a1 :: a2 :: a3 :: a4 :: a5 :: a6 :: a7 :: s :: r) := rfl
theorem setS_w8 {a0 a1 a2 a3 a4 a5 a6 a7 s : Sl} {d : List D} {r : List Sl} : setS 8 s (a0 :: a1 :: a2 :: a3 :: a4 :: a5 :: a6 :: a7 :: .own d :: r) = .ok (.nx, a0 :: a1 :: a2 :: a3 :: a4 :: a5 :: a6 :: a7 :: s :: r) := rfl
theorem setS_o9 {a0 a1 a2 a3 a4 a5 a6 a7 a8 s : Sl} {o : Option D} {r : List Sl} : setS 9 s (a0 :: a1 :: a2 :: a3 :: a4 :: a5 :: a6 :: a7 :: a8 :: opn o :: r) = .ok (.nx, a0 :: a1 :: a2 :: a3 :: a4 :: a5 :: a6 :: a7 :: a8 :: s :: r) := by cases o <;> rfl
theorem setS_f9 {a0 a1 a2 a3 a4 a5 a6 a7 a8 s : Sl} {d : D} {r : List Sl} : setS 9 s (a0 :: a1 :: a2 :: a3 :: a4 :: a5 :: a6 :: a7 :: a8 :: .fro d :: r) = .ok (.nx, a0 :: a1 :: a2 :: a3 :: a4 :: a5 :: a6 :: a7 :: a8 :: s :: r) := rfl
theorem setS_u9 {a0 a1 a2 a3 a4 a5 a6 a7 a8 s : Sl} {r : List Sl} : setS 9 s (a0 :: a1 :: a2 :: a3 :: a4 :: a5 :: a6 :: a7 :: a8 :: .un :: r) = .ok (.nx, a0 :: a1 :: a2 :: a3 :: a4 :: a5 :: a6 :: a7 :: a8 :: s :: r) := rfl
theorem setS_w9 {a0 a1 a2 a3 a4 a5 a6 a7 a8 s : Sl} {d : List D} {r : List Sl} : setS 9 s (a0 :: a1 :: a2 :: a3 :: a4 :: a5 :: a6 :: a7 :: a8 :: .own d :: r) = .ok (.nx, a0 :: a1 :: a2 :: a3 :: a4 :: a5 :: a6 :: a7 :: a8 :: s :: r) := rfl
theorem setS_o10 {a0 a1 a2 a3 a4 a5 a6 a7 a8 a9 s : Sl} {o : Option D} {r : List Sl} : setS 10 s (a0 :: a1 :: a2 :: a3 :: a4 :: a5 :: a6 :: a7 :: a8 :: a9 :: opn o :: r) = .ok (.nx, a0 :: a1 :: a2 :: a3 :: a4 :: a5 :: a6 :: a7 :: a8 :: a9 :: s :: r) := by cases o <;> rfl
theorem setS_f10 {a0 a1 a2 a3 a4 a5 a6 a7 a8 a9 s : Sl} {d : D} {r : List Sl} : setS 10 s (a0 :: a1 :: a2 :: a3 :: a4 :: a5 :: a6 :: a7 :: a8 :: a9 :: .fro d :: r) = .ok (.nx, a0 :: a1 :: a2 :: a3 :: a4 :: a5 :: a6 :: a7 :: a8 :: a9 :: s :: r) := rfl
theorem setS_u10 {a0 a1 a2 a3 a4 a5 a6 a7 a8 a9 s : Sl} {r : List Sl} : setS 10 s (a0 :: a1 :: a2 :: a3 :: a4 :: a5 :: a6 :: a7 :: a8 :: a9 :: .un :: r) = .ok (.nx, a0 :: a1 :: a2 :: a3 :: a4 :: a5 :: a6 :: a7 :: a8 :: a9 :: s :: r) := rfl
theorem setS_w10 {a0 a1 a2 a3 a4 a5 a6 a7 a8 a9 s : Sl} {d : List D} {r : List Sl} : setS 10 s (a0 :: a1 :: a2 :: a3 :: a4 :: a5 :: a6 :: a7 :: a8 :: a9 :: .own d :: r) = .ok (.nx, a0 :: a1 :: a2 :: a3 :: a4 :: a5 :: a6 :: a7 :: a8 :: a9 :: s :: r) := rfl
theorem setS_o11 {a0 a1 a2 a3 a4 a5 a6 a7 a8 a9 a10 s : Sl} {o : Option D} {r : List Sl} : setS 11 s (a0 :: a1 :: a2 :: a3 :: a4 :: a5 :: a6 :: a7 :: a8 :: a9 :: a10 :: opn o :: r) = .ok (.nx, a0 :: a1 :: a2 :: a3 :: a4 :: a5 :: a6 :: a7 :: a8 :: a9 :: a10 :: s :: r) := by cases o <;> rfl
theorem setS_f11 {a0 a1 a2 a3 a4 a5 a6 a7 a8 a9 a10 s : Sl} {d : D} {r : List Sl} : setS 11 s (a0 :: a1 :: a2 :: a3 :: a4 :: a5 :: a6 :: a7 :: a8 :: a9 :: a10 :: .fro d :: r) = .ok (.nx, a0 :: a1 :: a2 :: a3 :: a4 :: a5 :: a6 :: a7 :: a8 :: a9 :: a10 :: s :: r) := rfl
theorem setS_u11 {a0 a1 a2 a3 a4 a5 a6 a7 a8 a9 a10 s : Sl} {r : List Sl} : setS 11 s (a0 :: a1 :: a2 :: a3 :: a4 :: a5 :: a6 :: a7 :: a8 :: a9 :: a10 :: .un :: r) = .ok (.nx, a0 :: a1 :: a2 :: a3 :: a4 :: a5 :: a6 :: a7 :: a8 :: a9 :: a10 :: s :: r) := rfl
theorem setS_w11 {a0 a1 a2 a3 a4 a5 a6 a7 a8 a9 a10 s : Sl} {d : List D} {r : List Sl} : setS 11 s (a0 :: a1 :: a2 :: a3 :: a4 :: a5 :: a6 :: a7 :: a8 :: a9 :: a10 :: .own d :: r) = .ok (.nx, a0 :: a1 :: a2 :: a3 :: a4 :: a5 :: a6 :: a7 :: a8 :: a9 :: a10 :: s :: r) := rfl
theorem setS_o12 {a0 a1 a2 a3 a4 a5 a6 a7 a8 a9 a10 a11 s : Sl} {o : Option D} {r : List Sl} : setS 12 s (a0 :: a1 :: a2 :: a3 :: a4 :: a5 :: a6 :: a7 :: a8 :: a9 :: a10 :: a11 :: opn o :: r) = .ok (.nx, a0 :: a1 :: a2 :: a3 :: a4 :: a5 :: a6 :: a7 :: a8 :: a9 :: a10 :: a11 :: s :: r) := by cases o <;> rfl
theorem setS_f12 {a0 a1 a2 a3 a4 a5 a6 a7 a8 a9 a10 a11 s : Sl} {d : D} {r : List Sl} : setS 12 s (a0 :: a1 :: a2 :: a3 :: a4 :: a5 :: a6 :: a7 :: a8 :: a9 :: a10 :: a11 :: .fro d :: r) = .ok (.nx, a0 :: a1 :: a2 :: a3 :: a4 :: a5 :: a6 :: a7 :: a8 :: a9 :: a10 :: a11 :: s :: r) := rfl
theorem setS_u12 {a0 a1 a2 a3 a4 a5 a6 a7 a8 a9 a10 a11 s : Sl} {r : List Sl} : setS 12 s (a0 :: a1 :: a2 :: a3 :: a4 :: a5 :: a6 :: a7 :: a8 :: a9 :: a10 :: a11 :: .un :: r) = .ok (.nx, a0 :: a1 :: a2 :: a3 :: a4 :: a5 :: a6 :: a7 :: a8 :: a9 :: a10 :: a11 :: s :: r) := rfl
theorem setS_w12 {a0 a1 a2 a3 a4 a5 a6 a7 a8 a9 a10 a11 s : Sl} {d : List D} {r : List Sl} : setS 12 s (a0 :: a1 :: a2 :: a3 :: a4 :: a5 :: a6 :: a7 :: a8 :: a9 :: a10 :: a11 :: .own d :: r) = .ok (.nx, a0 :: a1 :: a2 :: a3 :: a4 :: a5 :: a6 :: a7 :: a8 :: a9 :: a10 :: a11 :: s :: r) := rfl
theorem setS_o13 {a0 a1 a2 a3 a4 a5 a6 a7 a8 a9 a10 a11 a12 s : Sl} {o : Option D} {r : List Sl} : setS 13 s (a0 :: a1 :: a2 :: a3 :: a4 :: a5 :: a6 :: a7 :: a8 :: a9 :: a10 :: a11 :: a12 :: opn o :: r) = .ok (.nx, a0 :: a1 :: a2 :: a3 :: a4 :: a5 :: a6 :: a7 :: a8 :: a9 :: a10 :: a11 :: a12 :: s :: r) := by cases o <;> rfl
theorem setS_f13 {a0 a1 a2 a3 a4 a5 a6 a7 a8 a9 a10 a11 a12 s : Sl} {d : D} {r : List Sl} : setS 13 s (a0 :: a1 :: a2 :: a3 :: a4 :: a5 :: a6 :: a7 :: a8 :: a9 :: a10 :: a11 :: a12 :: .fro d :: r) = .ok (.nx, a0 :: a1 :: a2 :: a3 :: a4 :: a5 :: a6 :: a7 :: a8 :: a9 :: a10 :: a11 :: a12 :: s :: r) := rfl
theorem setS_u13 {a0 a1 a2 a3 a4 a5 a6 a7 a8 a9 a10 a11 a12 s : Sl} {r : List Sl} : setS 13 s (a0 :: a1 :: a2 :: a3 :: a4 :: a5 :: a6 :: a7 :: a8 :: a9 :: a10 :: a11 :: a12 :: .un :: r) = .ok (.nx, a0 :: a1 :: a2 :: a3 :: a4 :: a5 :: a6 :: a7 :: a8 :: a9 :: a10 :: a11 :: a12 :: s :: r) := rfl
theorem setS_w13 {a0 a1 a2 a3 a4 a5 a6 a7 a8 a9 a10 a11 a12 s : Sl} {d : List D} {r : List Sl} : setS 13 s (a0 :: a1 :: a2 :: a3 :: a4 :: a5 :: a6 :: a7 :: a8 :: a9 :: a10 :: a11 :: a12 :: .own d :: r) = .ok (.nx, a0 :: a1 :: a2 :: a3 :: a4 :: a5 :: a6 :: a7 :: a8 :: a9 :: a10 :: a11 :: a12 :: s :: r) := rfl
theorem setS_o14 {a0 a1 a2 a3 a4 a5 a6 a7 a8 a9 a10 a11 a12 a13 s : Sl} {o : Option D} {r : List Sl} : setS 14 s (a0 :: a1 :: a2 :: a3 :: a4 :: a5 :: a6 :: a7 :: a8 :: a9 :: a10 :: a11 :: a12 :: a13 :: opn o :: r) = .ok (.nx, a0 :: a1 :: a2 :: a3 :: a4 :: a5 :: a6 :: a7 :: a8 :: a9 :: a10 :: a11 :: a12 :: a13 :: s :: r) := by cases o <;> rfl
theorem setS_f14 {a0 a1 a2 a3 a4 a5 a6 a7 a8 a9 a10 a11 a12 a13 s : Sl} {d : D} {r : List Sl} : setS 14 s (a0 :: a1 :: a2 :: a3 :: a4 :: a5 :: a6 :: a7 :: a8 :: a9 :: a10 :: a11 :: a12 :: a13 :: .fro d :: r) = .ok (.nx, a0 :: a1 :: a2 :: a3 :: a4 :: a5 :: a6 :: a7 :: a8 :: a9 :: a10 :: a11 :: a12 :: a13 :: s :: r) := rfl
theorem setS_u14 {a0 a1 a2 a3 a4 a5 a6 a7 a8 a9 a10 a11 a12 a13 s : Sl} {r : List Sl} : setS 14 s (a0 :: a1 :: a2 :: a3 :: a4 :: a5 :: a6 :: a7 :: a8 :: a9 :: a10 :: a11 :: a12 :: a13 :: .un :: r) = .ok (.nx, a0 :: a1 :: a2 :: a3 :: a4 :: a5 :: a6 :: a7 :: a8 :: a9 :: a10 :: a11 :: a12 :: a13 :: s :: r) := rfl
theorem setS_w14 {a0 a1 a2 a3 a4 a5 a6 a7 a8 a9 a10 a11 a12 a13 s : Sl} {d : List D} {r : List Sl} : setS 14 s (a0 :: a1 :: a2 :: a3 :: a4 :: a5 :: a6 :: a7 :: a8 :: a9 :: a10 :: a11 :: a12 :: a13 :: .own d :: r) = .ok (.nx, a0 :: a1 :: a2 :: a3 :: a4 :: a5 :: a6 :: a7 :: a8 :: a9 :: a10 :: a11 :: a12 :: a13 :: s :: r) := rfl
theorem setS_o15 {a0 a1 a2 a3 a4 a5 a6 a7 a8 a9 a10 a11 a12 a13 a14 s : Sl} {o : Option D} {r : List Sl} : setS 15 s (a0 :: a1 :: a2 :: a3 :: a4 :: a5 :: a6 :: a7 :: a8 :: a9 :: a10 :: a11 :: a12 :: a13 :: a14 :: opn o :: r) = .ok (.nx, a0 :: a1 :: a2 :: a3 :: a4 :: a5 :: a6 :: a7 :: a8 :: a9 :: a10 :: a11 :: a12 :: a13 :: a14 :: s :: r) := by cases o <;> rfl
theorem setS_f15 {a0 a1 a2 a3 a4 a5 a6 a7 a8 a9 a10 a11 a12 a13 a14 s : Sl} {d : D} {r : List Sl} : setS 15 s (a0 :: a1 :: a2 :: a3 :: a4 :: a5 :: a6 :: a7 :: a8 :: a9 :: a10 :: a11 :: a12 :: a13 :: a14 :: .fro d :: r) = .ok (.nx, a0 :: a1 :: a2 :: a3 :: a4 :: a5 :: a6 :: a7 :: a8 :: a9 :: a10 :: a11 :: a12 :: a13 :: a14 :: s :: r) := rfl
theorem setS_u15 {a0 a1 a2 a3 a4 a5 a6 a7 a8 a9 a10 a11 a12 a13 a14 s : Sl} {r : List Sl} : setS 15 s (a0 :: a1 :: a2 :: a3 :: a4 :: a5 :: a6 :: a7 :: a8 :: a9 :: a10 :: a11 :: a12 :: a13 :: a14 :: .un :: r) = .ok (.nx, a0 :: a1 :: a2 :: a3 :: a4 :: a5 :: a6 :: a7 :: a8 :: a9 :: a10 :: a11 :: a12 :: a13 :: a14 :: s :: r) := rfl
theorem setS_w15 {a0 a1 a2 a3 a4 a5 a6 a7 a8 a9 a10 a11 a12 a13 a14 s : Sl} {d : List D} {r : List Sl} : setS 15 s (a0 :: a1 :: a2 :: a3 :: a4 :: a5 :: a6 :: a7 :: a8 :: a9 :: a10 :: a11 :: a12 :: a13 :: a14 :: .own d :: r) = .ok (.nx, a0 :: a1 :: a2 :: a3 :: a4 :: a5 :: a6 :: a7 :: a8 :: a9 :: a10 :: a11 :: a12 :: a13 :: a14 :: s :: r) := rfl
theorem ansE_ok {ev : EV} {b : Option (List D)} {g : List Sl} : ansE (.ok ev b) g = .ok (ev, g) := (Eq.refl (ansE (.ok ev b) g)).trans rfl
theorem ansE_exn {k : Nat} {f : Str} {p : D} {b : Option (List D)} {g : List Sl} : ansE (.exn k f p b) g = .exn k f p g := (Eq.refl (ansE (.exn k f p b) g)).trans rfl
-- runs a denotation
end Mw
open PySem L2 Mw
local macro_rules
  | `(tactic| simp_arith! [$ts,*]) => `(tactic| simp only [Mw.fdN, Mw.fdD, Mw.chk, Mw.borOf, Mw.flEv, Mw.seqS, Mw.bnd, Mw.ret, Mw.nxS, Mw.bkS, Mw.ctS, Mw.ifS, Mw.exprS, Mw.mvE, Mw.asgS, Mw.retV, Mw.retE, Mw.retS, Mw.cst, Mw.vr, Mw.op1, Mw.op2, Mw.opN, Mw.onE, Mw.app1, Mw.app2, Mw.appN, Mw.look, Mw.lookL, Mw.slD, Mw.frz, Mw.esc, Mw.escL, Mw.Out.ev, Mw.argsNil, Mw.argsCons, Mw.tupE, Mw.lstE, Mw.tstE, Mw.truE, Mw.truD, Mw.andT, Mw.orT, Mw.notT, Mw.ifE, Mw.andV, Mw.orV, Mw.notV, Mw.notX,
      Mw.vI, Mw.vB, Mw.gd, Mw.addD, Mw.subD, Mw.negD, Mw.ltD, Mw.leD, Mw.gtD, Mw.geD, Mw.modD, Mw.divD, Mw.isNon, Mw.isBl, Mw.isNF, Mw.noNF, Mw.isBD, Mw.chE, Mw.endF, Mw.forS, Mw.asgT, Mw.Tg.put, Mw.setL, Mw.escA, Mw.escAL, Mw.ansE_ok, Mw.ansE_exn, Mw.callE, Mw.callB, Mw.borCall, Mw.seqE, Mw.seqS', Mw.rngE, Mw.rngF1, Mw.rngF2, Mw.lenF, Mw.intF, Mw.absF, Mw.maxF, Mw.minF, Mw.sumF, Mw.maxLF, Mw.minLF, Mw.listF, Mw.tupleF, Mw.seqF, Mw.isiF, Mw.isTy, Mw.popE, Mw.popF, Mw.apE, Mw.appF, Mw.slotL, Mw.muG, Mw.raiseS, Mw.iniD, Mw.vrS, Mw.scrE, Mw.tryS, Mw.hand, Mw.excP, Mw.offS, Mw.okFl, Mw.cleanG, Mw.cleanS, Mw.isxE, Mw.fldE, Mw.revA, Mw.mulA, Mw.wipeG, Mw.restG, Mw.keepSl, Mw.eqD_ii, Mw.neD_ii,
      List.length_cons, List.length_nil, List.append_nil, List.nil_append, List.cons_append, List.replicate, List.getElem?_cons_zero, List.getElem?_cons_succ, List.set_cons_zero, List.set_cons_succ, List.map_cons, List.map_nil, List.any_cons, List.any_nil, List.headD, Option.bind_some, Option.bind_none, Option.map_some, Option.map_none, Option.some.injEq, if_true, if_false, Bool.false_eq_true, reduceCtorEq, decide_true, decide_false, Bool.and_self, Bool.or_self, Bool.not_true, Bool.not_false, Bool.true_or, Bool.false_or, Bool.or_true, Bool.or_false, Bool.true_and, Bool.false_and, Bool.and_true, Bool.and_false, reduceIte, Int.reduceLT, Int.reduceLE, Int.reduceEq, Int.reduceGT, Int.reduceAdd, Int.reduceSub, Int.reduceNeg, Int.reduceMul, Int.zero_add, Mw.setS_o0, Mw.setS_f0, Mw.setS_u0, Mw.setS_w0, Mw.setS_o1, Mw.setS_f1, Mw.setS_u1, Mw.setS_w1, Mw.setS_o2, Mw.setS_f2, Mw.setS_u2, Mw.setS_w2, Mw.setS_o3, Mw.setS_f3, Mw.setS_u3, Mw.setS_w3, Mw.setS_o4, Mw.setS_f4, Mw.setS_u4, Mw.setS_w4, Mw.setS_o5, Mw.setS_f5, Mw.setS_u5, Mw.setS_w5, Mw.setS_o6, Mw.setS_f6, Mw.setS_u6, Mw.setS_w6, Mw.setS_o7, Mw.setS_f7, Mw.setS_u7, Mw.setS_w7, Mw.setS_o8, Mw.setS_f8, Mw.setS_u8, Mw.setS_w8, Mw.setS_o9, Mw.setS_f9, Mw.setS_u9, Mw.setS_w9, Mw.setS_o10, Mw.setS_f10, Mw.setS_u10, Mw.setS_w10, Mw.setS_o11, Mw.setS_f11, Mw.setS_u11, Mw.setS_w11, Mw.setS_o12, Mw.setS_f12, Mw.setS_u12, Mw.setS_w12, Mw.setS_o13, Mw.setS_f13, Mw.setS_u13, Mw.setS_w13, Mw.setS_o14, Mw.setS_f14, Mw.setS_u14, Mw.setS_w14, Mw.setS_o15, Mw.setS_f15, Mw.setS_u15, Mw.setS_w15, Nat.reduceAdd, Nat.reduceEqDiff, Nat.reduceLT, Nat.reduceLeDiff, $ts,*])
namespace Mw
open PySem L2


theorem post_ok {α : Type} {ok : α → List Sl → Prop} {ex : Nat → Str → D → List Sl → Prop} {a : α} {g : List Sl} : Post ok ex (.ok (a, g)) = ok a g := rfl
theorem post_exn {α : Type} {ok : α → List Sl → Prop} {ex : Nat → Str → D → List Sl → Prop} {k : Nat} {f : Str} {p : D} {g : List Sl} : Post ok ex (.exn k f p g : Res (α × List Sl)) = ex k f p g := rfl
theorem post_stuck {α : Type} {ok : α → List Sl → Prop} {ex : Nat → Str → D → List Sl → Prop} : Post ok ex (.stuck : Res (α × List Sl)) = False := rfl
theorem post_ite {α : Type} {ok : α → List Sl → Prop} {ex : Nat → Str → D → List Sl → Prop} {c : Prop} [Decidable c] {a b : SM α} {g : List Sl} : Post ok ex ((if c then a else b) g) = if c then Post ok ex (a g) else Post ok ex (b g) := by
  by_cases h : c
  · rw [if_pos h, if_pos h]
  · rw [if_neg h, if_neg h]
theorem post_lc {vs : List Nat} {it : SM (List D)} {t : Tg} {q : SM Bool} {el : SM EV} {g : List Sl} {ok : EV → List Sl → Prop} {ex : Nat → Str → D → List Sl → Prop} :
    Post ok ex (lcE vs it t q el g) ↔ Post (fun ds g1 => Post (fun acc g2 => ok (.own acc) (restG vs g1 g2)) (fun _ _ _ _ => False) (lcL vs t q el [] ds (wipeG g1 vs))) ex (it g) := by
  unfold lcE
  rw [post_bnd]
  have : ∀ ds g1, Post ok ex (match lcL vs t q el [] ds (wipeG g1 vs) with
    | .ok (acc, g1') => (.ok (EV.own acc, restG vs g1 g1') : Res (EV × List Sl))
    | _ => .stuck) ↔ Post (fun acc g2 => ok (.own acc) (restG vs g1 g2)) (fun _ _ _ _ => False) (lcL vs t q el [] ds (wipeG g1 vs)) := fun ds g1 => by
    cases lcL vs t q el [] ds (wipeG g1 vs) with
    | ok x => exact Iff.rfl
    | exn _ _ _ _ => exact Iff.rfl
    | stuck => exact Iff.rfl
  exact ⟨fun h => post_mono h (fun ds g1 => (this ds g1).mp) fun _ _ _ _ q => q, fun h => post_mono h (fun ds g1 => (this ds g1).mpr) fun _ _ _ _ q => q⟩
theorem post_bnd_eq {α β : Type} {m : SM α} {f : α → SM β} {g : List Sl} {ok : β → List Sl → Prop} {ex : Nat → Str → D → List Sl → Prop} : Post ok ex (bnd m f g) = Post (fun a g' => Post ok ex (f a g')) ex (m g) := propext post_bnd
theorem post_lc_eq {vs : List Nat} {it : SM (List D)} {t : Tg} {q : SM Bool} {el : SM EV} {g : List Sl} {ok : EV → List Sl → Prop} {ex : Nat → Str → D → List Sl → Prop} :
    Post ok ex (lcE vs it t q el g) = Post (fun ds g1 => Post (fun acc g2 => ok (.own acc) (restG vs g1 g2)) (fun _ _ _ _ => False) (lcL vs t q el [] ds (wipeG g1 vs))) ex (it g) := propext post_lc
theorem post_try_eq {sb : Nat → Nat → Bool} {n : Nat} {b : SM Fl} {hs : List Hdl} {g : List Sl} {ok : Fl → List Sl → Prop} {ex : Nat → Str → D → List Sl → Prop} :
    Post ok ex (tryS sb n b hs g) = Post ok (fun k f p g' => if 0 < k ∧ k < n then Post ok ex (hand sb hs k f p g') else False) (b g) := by
  unfold tryS
  cases b g with
  | ok x => rfl
  | stuck => rfl
  | exn k f p g' =>
    show Post ok ex (if 0 < k ∧ k < n then hand sb hs k f p g' else .stuck) = if 0 < k ∧ k < n then Post ok ex (hand sb hs k f p g') else False
    by_cases h : 0 < k ∧ k < n
    · rw [if_pos h, if_pos h]
    · rw [if_neg h, if_neg h]; rfl
theorem post_off_eq {s : SM Fl} {cl : List Sl → List Sl} {g : List Sl} {ok : Fl → List Sl → Prop} {ex : Nat → Str → D → List Sl → Prop} :
    Post ok ex (offS s cl g) = Post (fun fl g' => if okFl fl = true then ok fl (cl g') else False) (fun _ _ _ _ => False) (s g) := by
  unfold offS
  cases s g with
  | stuck => rfl
  | exn k f p g' => rfl
  | ok x =>
    obtain ⟨fl, g'⟩ := x
    show Post ok ex (if okFl fl = true then .ok (fl, cl g') else .stuck) = if okFl fl = true then ok fl (cl g') else False
    by_cases h : okFl fl = true
    · rw [if_pos h, if_pos h]; rfl
    · rw [if_neg h, if_neg h]; rfl
theorem post_ite_pos {α : Type} {ok : α → List Sl → Prop} {ex : Nat → Str → D → List Sl → Prop} {c : Prop} [Decidable c] {a b : SM α} {g : List Sl} (h : c) : Post ok ex ((if c then a else b) g) = Post ok ex (a g) := by rw [if_pos h]
theorem post_ite_neg {α : Type} {ok : α → List Sl → Prop} {ex : Nat → Str → D → List Sl → Prop} {c : Prop} [Decidable c] {a b : SM α} {g : List Sl} (h : ¬ c) : Post ok ex ((if c then a else b) g) = Post ok ex (b g) := by rw [if_neg h]
theorem ob_some {α β : Type} (a : α) (f : α → Option β) : (some a).bind f = f a := (Eq.refl ((some a).bind f)).trans rfl
theorem ob_none {α β : Type} (f : α → Option β) : (none : Option α).bind f = none := (Eq.refl _).trans rfl
/-! ## the operators at data, told once -/
theorem addD_ii (a b : Int) : addD (.int a) (.int b) = some (.val (.int (a + b))) := rfl
theorem subD_ii (a b : Int) : subD (.int a) (.int b) = some (.val (.int (a - b))) := rfl
theorem negD_i (a : Int) : negD (.int a) = some (.val (.int (-a))) := rfl
theorem ltD_ii (a b : Int) : ltD (.int a) (.int b) = some (.val (.bool (decide (a < b)))) := rfl
theorem leD_ii (a b : Int) : leD (.int a) (.int b) = some (.val (.bool (decide (a ≤ b)))) := rfl
theorem gtD_ii (a b : Int) : gtD (.int a) (.int b) = some (.val (.bool (decide (b < a)))) := rfl
theorem geD_ii (a b : Int) : geD (.int a) (.int b) = some (.val (.bool (decide (b ≤ a)))) := rfl
theorem modD_ii {a b : Int} (h : 0 < b) : modD (.int a) (.int b) = some (.val (.int (a % b))) := by
  show gd (decide (0 < b)) _ = _
  rw [decide_eq_true h]; rfl
theorem divD_ii {a b : Int} (h : divOk b = true) : divD (.int a) (.int b) = some (.val (.int (a / b))) := by
  show gd (divOk b) _ = _
  rw [h]; rfl
theorem mulA_ii {a b : Int} (h : mulOk a b = true) : mulA (.int a) (.int b) = some (.val (.int (a * b))) := by
  show gd (mulOk a b) _ = _
  rw [h]; rfl
theorem rngF1_ok {j : Int} (h : rOk j = true) : rngF1 [.int j] = some (rngL 0 j.toNat) := by
  show (if rOk j = true then _ else _) = _
  rw [if_pos h]
theorem rngF2_ok {i j : Int} (h : rOk i = true) (h2 : rOk j = true) : rngF2 [.int i, .int j] = some (rngL i (j - i).toNat) := by
  show (if (rOk i && rOk j) = true then _ else _) = _
  rw [h, h2]; rfl
theorem lenF_l (ds : List D) : lenF [.list ds] = some (.val (.int (ds.length : Nat))) := rfl
theorem lenF_t (ds : List D) : lenF [.tuple ds] = some (.val (.int (ds.length : Nat))) := rfl
theorem intF_i (i : Int) : intF [.int i] = some (.val (.int i)) := rfl
theorem absF_i (i : Int) : absF [.int i] = some (.val (.int (if i < 0 then -i else i))) := rfl
theorem maxF_ii (i j : Int) : maxF [.int i, .int j] = some (.val (.int (if j > i then j else i))) := rfl
theorem minF_ii (i j : Int) : minF [.int i, .int j] = some (.val (.int (if j < i then j else i))) := rfl
theorem listF_l (ds : List D) : listF [.list ds] = some (.lstN ds) := rfl
theorem listF_t (ds : List D) : listF [.tuple ds] = some (.lstN ds) := rfl
theorem tupleF_l (ds : List D) : tupleF [.list ds] = some (.tupN ds) := rfl
theorem tupleF_t (ds : List D) : tupleF [.tuple ds] = some (.val (.tuple ds)) := rfl
theorem appF_ok {d : D} {ds : List D} (h : ds.length < SZ) : appF d ds = some (ds ++ [d], .none) := if_pos h
theorem popF_app (ds : List D) (d : D) : popF (ds ++ [d]) = some (ds, d) := by
  unfold popF
  rw [List.getLast?_append, List.getLast?_singleton, List.dropLast_concat]; rfl
theorem ixD_l {ds : List D} {i : Int} {d : D} (h : atI ds i = some d) : ixD (.list ds) (.int i) = some (.val d) := by
  show (atI ds i).map _ = _
  rw [h]; rfl
theorem ixD_t {ds : List D} {i : Int} {d : D} (h : atI ds i = some d) : ixD (.tuple ds) (.int i) = some (.val d) := by
  show (atI ds i).map _ = _
  rw [h]; rfl
theorem isNF_d (d : D) : isNF d = some (.val (.bool (isNon d))) := rfl
theorem noNF_d (d : D) : noNF d = some (.val (.bool (!isNon d))) := rfl
theorem isBD_d (d : D) (b : Bool) : isBD d (.bool b) = some (.val (.bool (isBl b d))) := by cases d <;> rfl
theorem isiF_i (ts : List Ty) (i : Int) : isiF ts (.int i) = some (.val (.bool (ts.any fun t => isTy t (.int i)))) := rfl
theorem isiF_b (ts : List Ty) (i : Bool) : isiF ts (.bool i) = some (.val (.bool (ts.any fun t => isTy t (.bool i)))) := rfl
theorem isiF_s (ts : List Ty) (i : Str) : isiF ts (.str i) = some (.val (.bool (ts.any fun t => isTy t (.str i)))) := rfl
theorem isiF_l (ts : List Ty) (i : List D) : isiF ts (.list i) = some (.val (.bool (ts.any fun t => isTy t (.list i)))) := rfl
theorem isiF_t (ts : List Ty) (i : List D) : isiF ts (.tuple i) = some (.val (.bool (ts.any fun t => isTy t (.tuple i)))) := rfl
theorem isiF_n (ts : List Ty) : isiF ts .none = some (.val (.bool (ts.any fun t => isTy t .none))) := rfl
/-! lemmas in place of definitions, so that the kernel looks into no call -/
def outR (g : List Sl) : Option Out → Res (EV × List Sl)
  | some o => .ok (o.ev, g)
  | none => .stuck
theorem outR_s {g : List Sl} {o : Out} : outR g (some o) = .ok (o.ev, g) := (Eq.refl (outR g (some o))).trans rfl
theorem outR_n {g : List Sl} : outR g none = .stuck := (Eq.refl (outR g none)).trans rfl
theorem app1_eq {f : D → Option Out} {x : EV} {g : List Sl} : app1 f x g = outR g ((look g x).bind f) := by
  unfold app1
  cases (look g x).bind f <;> rfl
theorem app2_eq {f : D → D → Option Out} {x y : EV} {g : List Sl} : app2 f x y g = outR g ((look g x).bind fun d => (look g y).bind fun e => f d e) := by
  unfold app2
  cases ((look g x).bind fun d => (look g y).bind fun e => f d e) <;> rfl
theorem appN_eq {f : List D → Option Out} {xs : List EV} {g : List Sl} : appN f xs g = outR g ((lookL g xs).bind f) := by
  unfold appN
  cases (lookL g xs).bind f <;> rfl
def ansB (s : List D → Sl) (i : Nat) (g : List Sl) : FR → Res (EV × List Sl)
  | .ok ev (some ds') => .ok (ev, g.set i (s ds'))
  | .exn k x p (some ds') => .exn k x p (g.set i (s ds'))
  | _ => .stuck
theorem ansB_ok {s : List D → Sl} {i : Nat} {g : List Sl} {ev : EV} {ds : List D} : ansB s i g (.ok ev (some ds)) = .ok (ev, g.set i (s ds)) := (Eq.refl (ansB s i g (.ok ev (some ds)))).trans rfl
theorem ansB_exn {s : List D → Sl} {i : Nat} {g : List Sl} {k : Nat} {x : Str} {p : D} {ds : List D} : ansB s i g (.exn k x p (some ds)) = .exn k x p (g.set i (s ds)) := (Eq.refl (ansB s i g (.exn k x p (some ds)))).trans rfl
def borR (f : Fd) (i : Nat) (as : List Sl) (g : List Sl) : Option Sl → Res (EV × List Sl)
  | some (.own ds) => ansB .own i g (f (.bor ds :: as))
  | some (.bor ds) => ansB .bor i g (f (.bor ds :: as))
  | _ => .stuck
theorem borR_own {f : Fd} {i : Nat} {as g : List Sl} {ds : List D} : borR f i as g (some (.own ds)) = ansB .own i g (f (.bor ds :: as)) := (Eq.refl (borR f i as g (some (.own ds)))).trans rfl
theorem borR_bor {f : Fd} {i : Nat} {as g : List Sl} {ds : List D} : borR f i as g (some (.bor ds)) = ansB .bor i g (f (.bor ds :: as)) := (Eq.refl (borR f i as g (some (.bor ds)))).trans rfl
theorem borCall_eq {f : Fd} {i : Nat} {as g : List Sl} : borCall f i as g = borR f i as g g[i]? := by
  unfold borCall
  cases g[i]? with
  | none => rfl
  | some s =>
    cases s with
    | own ds =>
      show (match f (.bor ds :: as) with
        | .ok ev (some ds') => .ok (ev, g.set i (.own ds'))
        | .exn k x p (some ds') => .exn k x p (g.set i (.own ds'))
        | _ => .stuck) = ansB .own i g (f (.bor ds :: as))
      generalize f (.bor ds :: as) = r
      cases r with
      | ok ev b => cases b <;> rfl
      | exn k x p b => cases b <;> rfl
      | stuck => rfl
    | bor ds =>
      show (match f (.bor ds :: as) with
        | .ok ev (some ds') => .ok (ev, g.set i (.bor ds'))
        | .exn k x p (some ds') => .exn k x p (g.set i (.bor ds'))
        | _ => .stuck) = ansB .bor i g (f (.bor ds :: as))
      generalize f (.bor ds :: as) = r
      cases r with
      | ok ev b => cases b <;> rfl
      | exn k x p b => cases b <;> rfl
      | stuck => rfl
    | _ => rfl

/-! ## running under Post, by rules at the root alone -/
section
variable {α β : Type} {ok : α → List Sl → Prop} {okE : EV → List Sl → Prop} {okF : Fl → List Sl → Prop} {okB : Bool → List Sl → Prop} {okD : D → List Sl → Prop} {okU : Unit → List Sl → Prop} {okL : List D → List Sl → Prop} {okA : List EV → List Sl → Prop} {okS : Sl → List Sl → Prop} {okT : List Sl → List Sl → Prop} {okO : Option Int → List Sl → Prop} {ex : Nat → Str → D → List Sl → Prop} {g : List Sl}
def cB (f : α → SM β) (ok : β → List Sl → Prop) (ex : Nat → Str → D → List Sl → Prop) : α → List Sl → Prop := fun a g => Post ok ex (f a g)
theorem c_B {f : α → SM β} {ok : β → List Sl → Prop} {a : α} : cB f ok ex a g = Post ok ex (f a g) := (Eq.refl (cB f ok ex a g)).trans rfl
theorem p_bnd {m : SM α} {f : α → SM β} {ok : β → List Sl → Prop} : Post ok ex (bnd m f g) = Post (cB f ok ex) ex (m g) := post_bnd_eq
theorem p_ok {a : α} : Post ok ex (.ok (a, g)) = ok a g := (Eq.refl (Post ok ex (.ok (a, g)))).trans rfl
theorem p_exn {k : Nat} {f : Str} {p : D} : Post ok ex (.exn k f p g : Res (α × List Sl)) = ex k f p g := (Eq.refl (ex k f p g)).trans rfl
theorem p_stuck : Post ok ex (.stuck : Res (α × List Sl)) = False := (Eq.refl False).trans rfl
theorem p_ret {a : α} : Post ok ex (ret a g) = ok a g := (Eq.refl (ok a g)).trans rfl
theorem p_onE {m : SM EV} {k : EV → SM β} {ok : β → List Sl → Prop} : Post ok ex (onE m k g) = Post (cB (fun ev => k (frz ev)) ok ex) ex (m g) := post_bnd_eq
theorem p_cst {d : D} : Post okE ex (cst d g) = okE (.fro d) g := (Eq.refl (okE (.fro d) g)).trans rfl
def vrR (i : Nat) (g : List Sl) : Option Sl → Res (EV × List Sl)
  | some (.fro d) => .ok (.fro d, g)
  | some (.own _) => .ok (.var i, g)
  | some (.bor _) => .ok (.var i, g)
  | _ => .stuck
theorem p_vr {i : Nat} : Post okE ex (vr i g) = Post okE ex (vrR i g g[i]?) := by
  unfold vr
  cases g[i]? with
  | none => rfl
  | some s => cases s <;> rfl
def vrSR (i : Nat) (g : List Sl) : Option Sl → Res (EV × List Sl)
  | some (.scr _) => .ok (.var i, g)
  | _ => .stuck
theorem p_vrS {i : Nat} : Post okE ex (vrS i g) = Post okE ex (vrSR i g g[i]?) := by
  unfold vrS
  cases g[i]? with
  | none => rfl
  | some s => cases s <;> rfl
def scrR (n : Nat) (g : List Sl) : Option Sl → Res (EV × List Sl)
  | some (.scr ns) => .ok (.own ((ns.take n).map PyData.int), g)
  | _ => .stuck
theorem p_scr {i n : Nat} : Post okE ex (scrE i n g) = Post okE ex (scrR n g g[i]?) := by
  unfold scrE
  cases g[i]? with
  | none => rfl
  | some s => cases s <;> rfl
/-- an outcome -/
def cO (ok : EV → List Sl → Prop) : Option Out → List Sl → Prop
  | some o, g => ok o.ev g
  | none, _ => False
theorem cO_s {o : Out} : cO okE (some o) g = okE o.ev g := (Eq.refl (okE o.ev g)).trans rfl
theorem p_app1 {f : D → Option Out} {x : EV} : Post okE ex (app1 f x g) = cO okE ((look g x).bind f) g := by
  rw [app1_eq]
  cases (look g x).bind f <;> rfl
theorem p_app2 {f : D → D → Option Out} {x y : EV} : Post okE ex (app2 f x y g) = cO okE ((look g x).bind fun d => (look g y).bind fun e => f d e) g := by
  rw [app2_eq]
  cases ((look g x).bind fun d => (look g y).bind fun e => f d e) <;> rfl
theorem p_appN {f : List D → Option Out} {xs : List EV} : Post okE ex (appN f xs g) = cO okE ((lookL g xs).bind f) g := by
  rw [appN_eq]
  cases (lookL g xs).bind f <;> rfl
theorem p_op1 {f : D → Option Out} {da : SM EV} : Post okE ex (op1 f da g) = Post (cB (fun ev => app1 f (frz ev)) okE ex) ex (da g) := post_bnd_eq
theorem p_op2 {f : D → D → Option Out} {da db : SM EV} : Post okE ex (op2 f da db g) = Post (cB (fun ev => onE db fun y => app2 f (frz ev) y) okE ex) ex (da g) := post_bnd_eq
theorem p_opN {f : List D → Option Out} {da : SM (List EV)} : Post okE ex (opN f da g) = Post (cB (appN f) okE ex) ex (da g) := post_bnd_eq
theorem p_argsNil : Post okA ex (argsNil g) = okA [] g := (Eq.refl (okA [] g)).trans rfl
theorem p_argsCons {da : SM EV} {dr : SM (List EV)} : Post okA ex (argsCons da dr g) = Post (cB (fun ev => bnd dr fun xs => ret (frz ev :: xs)) okA ex) ex (da g) := post_bnd_eq
theorem p_argsW {da : SM EV} {dr : SM (List EV)} : Post okA ex (argsW da dr g) = Post (cB (fun ev => bnd dr fun xs => ret (ev :: xs)) okA ex) ex (da g) := post_bnd_eq
def escR (i : Nat) (g : List Sl) : Option Sl → Res (D × List Sl)
  | some (.fro d) => .ok (d, g)
  | some (.own ds) => .ok (.list ds, g.set i (.fro (.list ds)))
  | _ => .stuck
theorem p_esc_f {d : D} : Post okD ex (esc (.fro d) g) = okD d g := (Eq.refl (okD d g)).trans rfl
theorem p_esc_o {ds : List D} : Post okD ex (esc (.own ds) g) = okD (.list ds) g := (Eq.refl (okD (.list ds) g)).trans rfl
theorem p_esc_v {i : Nat} : Post okD ex (esc (.var i) g) = Post okD ex (escR i g g[i]?) := by
  show Post okD ex (match g[i]? with
    | some (.fro d) => Res.ok (d, g)
    | some (.own ds) => .ok (.list ds, g.set i (.fro (.list ds)))
    | _ => .stuck) = _
  cases g[i]? with
  | none => rfl
  | some s => cases s <;> rfl
theorem p_escL_n : Post okL ex (escL [] g) = okL [] g := (Eq.refl (okL [] g)).trans rfl
theorem p_escL_c {e : EV} {es : List EV} : Post okL ex (escL (e :: es) g) = Post (cB (fun d => bnd (escL es) fun ds => ret (d :: ds)) okL ex) ex (esc e g) := post_bnd_eq
def cTup (ok : EV → List Sl → Prop) (ds : List D) (g : List Sl) : Prop := if ds.length ≤ SZ then ok (.fro (.tuple ds)) g else False
def cLst (ok : EV → List Sl → Prop) (ds : List D) (g : List Sl) : Prop := if ds.length ≤ SZ then ok (.own ds) g else False
theorem c_Tup {ds : List D} : cTup okE ds g = if ds.length ≤ SZ then okE (.fro (.tuple ds)) g else False := (Eq.refl (cTup okE ds g)).trans rfl
theorem c_Lst {ds : List D} : cLst okE ds g = if ds.length ≤ SZ then okE (.own ds) g else False := (Eq.refl (cLst okE ds g)).trans rfl
def cEscL (ok : List D → List Sl → Prop) (ex : Nat → Str → D → List Sl → Prop) (xs : List EV) (g : List Sl) : Prop := Post ok ex (escL xs g)
theorem c_EscL {xs : List EV} : cEscL okL ex xs g = Post okL ex (escL xs g) := (Eq.refl (cEscL okL ex xs g)).trans rfl
theorem p_tup {da : SM (List EV)} : Post okE ex (tupE da g) = Post (cEscL (cTup okE) ex) ex (da g) := by
  refine post_bnd_eq.trans (congrArg (fun k => Post k ex (da g)) (funext fun xs => funext fun g1 => post_bnd_eq.trans (congrArg (fun k => Post k ex (escL xs g1)) (funext fun ds => funext fun g2 => ?_))))
  unfold cTup
  by_cases h : ds.length ≤ SZ
  · rw [if_pos h, if_pos h]; rfl
  · rw [if_neg h, if_neg h]; rfl
theorem p_lst {da : SM (List EV)} : Post okE ex (lstE da g) = Post (cEscL (cLst okE) ex) ex (da g) := by
  refine post_bnd_eq.trans (congrArg (fun k => Post k ex (da g)) (funext fun xs => funext fun g1 => post_bnd_eq.trans (congrArg (fun k => Post k ex (escL xs g1)) (funext fun ds => funext fun g2 => ?_))))
  unfold cLst
  by_cases h : ds.length ≤ SZ
  · rw [if_pos h, if_pos h]; rfl
  · rw [if_neg h, if_neg h]; rfl
def cTs (ok : Bool → List Sl → Prop) : Option D → List Sl → Prop
  | some (.bool b), g => ok b g
  | _, _ => False
def cTst (ok : Bool → List Sl → Prop) (ev : EV) (g : List Sl) : Prop := cTs ok (look g (frz ev)) g
theorem c_Tst {ev : EV} : cTst okB ev g = cTs okB (look g (frz ev)) g := (Eq.refl (cTst okB ev g)).trans rfl
theorem c_Ts {b : Bool} : cTs okB (some (.bool b)) g = okB b g := (Eq.refl (okB b g)).trans rfl
theorem p_tst {da : SM EV} : Post okB ex (tstE da g) = Post (cTst okB) ex (da g) := by
  refine post_bnd_eq.trans (congrArg (fun k => Post k ex (da g)) (funext fun ev => funext fun g1 => ?_))
  unfold cTst
  show Post okB ex (match look g1 (frz ev) with
    | some (.bool b) => Res.ok (b, g1)
    | _ => .stuck) = _
  cases look g1 (frz ev) with
  | none => rfl
  | some d => cases d <;> rfl
def cTr (ok : Bool → List Sl → Prop) : Option Bool → List Sl → Prop
  | some b, g => ok b g
  | none, _ => False
def cTru (ok : Bool → List Sl → Prop) (ev : EV) (g : List Sl) : Prop := cTr ok ((look g (frz ev)).bind truD) g
theorem c_Tru {ev : EV} : cTru okB ev g = cTr okB ((look g (frz ev)).bind truD) g := (Eq.refl (cTru okB ev g)).trans rfl
theorem c_Tr {b : Bool} : cTr okB (some b) g = okB b g := (Eq.refl (okB b g)).trans rfl
theorem p_tru {da : SM EV} : Post okB ex (truE da g) = Post (cTru okB) ex (da g) := by
  refine post_bnd_eq.trans (congrArg (fun k => Post k ex (da g)) (funext fun ev => funext fun g1 => ?_))
  unfold cTru
  show Post okB ex (match (look g1 (frz ev)).bind truD with
    | some b => Res.ok (b, g1)
    | none => .stuck) = _
  cases (look g1 (frz ev)).bind truD <;> rfl
/-- both ways -/
def cI (a b : SM α) (ok : α → List Sl → Prop) (ex : Nat → Str → D → List Sl → Prop) : Bool → List Sl → Prop := fun c g => if c = true then Post ok ex (a g) else Post ok ex (b g)
theorem c_It {a b : SM α} : cI a b ok ex true g = Post ok ex (a g) := (Eq.refl (Post ok ex (a g))).trans rfl
theorem c_If {a b : SM α} : cI a b ok ex false g = Post ok ex (b g) := (Eq.refl (Post ok ex (b g))).trans rfl
theorem p_if {t : SM Bool} {a b : SM α} : Post ok ex (bnd t (fun c => if c = true then a else b) g) = Post (cI a b ok ex) ex (t g) :=
  post_bnd_eq.trans (congrArg (fun k => Post k ex (t g)) (funext fun c => funext fun g1 => by cases c <;> rfl))
theorem p_andT {a b : SM Bool} : Post okB ex (andT a b g) = Post (cI b (ret false) okB ex) ex (a g) := p_if
theorem p_orT {a b : SM Bool} : Post okB ex (orT a b g) = Post (cI (ret true) b okB ex) ex (a g) := p_if
theorem p_ifE {t : SM Bool} {a b : SM EV} : Post okE ex (ifE t a b g) = Post (cI a b okE ex) ex (t g) := p_if
theorem p_ifS {t : SM Bool} {a b : SM Fl} : Post okF ex (ifS t a b g) = Post (cI a b okF ex) ex (t g) := p_if
theorem p_andV {a b : SM EV} : Post okE ex (andV a b g) = Post (cI b (ret (.fro (.bool false))) okE ex) ex (tstE a g) := p_if
theorem p_orV {a b : SM EV} : Post okE ex (orV a b g) = Post (cI (ret (.fro (.bool true))) b okE ex) ex (tstE a g) := p_if
def cN (ok : Bool → List Sl → Prop) : Bool → List Sl → Prop := fun c g => ok (!c) g
theorem c_N {c : Bool} : cN okB c g = okB (!c) g := (Eq.refl (okB (!c) g)).trans rfl
def cNV (ok : EV → List Sl → Prop) : Bool → List Sl → Prop := fun c g => ok (.fro (.bool (!c))) g
theorem c_NV {c : Bool} : cNV okE c g = okE (.fro (.bool (!c))) g := (Eq.refl (okE (.fro (.bool (!c))) g)).trans rfl
theorem p_notT {a : SM Bool} : Post okB ex (notT a g) = Post (cN okB) ex (a g) := post_bnd_eq
theorem p_notV {a : SM EV} : Post okE ex (notV a g) = Post (cNV okE) ex (tstE a g) := post_bnd_eq
theorem p_notX {a : SM EV} : Post okE ex (notX a g) = Post (cNV okE) ex (truE a g) := post_bnd_eq
def cBV (ok : EV → List Sl → Prop) : Bool → List Sl → Prop := fun c g => ok (.fro (.bool c)) g
theorem c_V {c : Bool} : cBV okE c g = okE (.fro (.bool c)) g := (Eq.refl (okE (.fro (.bool c)) g)).trans rfl
theorem p_valT {a : SM Bool} : Post okE ex (valT a g) = Post (cBV okE) ex (a g) := post_bnd_eq
def chX (f : D → D → Option Out) (f' : D → D → Option Out) (dc : SM EV) (x y : EV) : SM EV := bnd (tstE (app2 f x y)) fun k => if k then onE dc fun z => app2 f' y z else ret (.fro (.bool false))
theorem p_chX {f f' : D → D → Option Out} {dc : SM EV} {x y : EV} : Post okE ex (chX f f' dc x y g) = Post (cI (onE dc fun z => app2 f' y z) (ret (.fro (.bool false))) okE ex) ex (tstE (app2 f x y) g) := p_if
theorem p_chE {f f' : D → D → Option Out} {da db dc : SM EV} : Post okE ex (chE f f' da db dc g) = Post (cB (fun ev => onE db fun y => chX f f' dc (frz ev) y) okE ex) ex (da g) := post_bnd_eq
def cSeq (t : SM Fl) (ok : Fl → List Sl → Prop) (ex : Nat → Str → D → List Sl → Prop) : Fl → List Sl → Prop
  | .nx, g => Post ok ex (t g)
  | .rt e, g => ok (.rt e) g
  | .bk, g => ok .bk g
  | .ct, g => ok .ct g
theorem c_Sn {t : SM Fl} : cSeq t okF ex .nx g = Post okF ex (t g) := (Eq.refl (Post okF ex (t g))).trans rfl
theorem c_Sr {t : SM Fl} {e : EV} : cSeq t okF ex (.rt e) g = okF (.rt e) g := (Eq.refl (okF (.rt e) g)).trans rfl
theorem c_Sb {t : SM Fl} : cSeq t okF ex .bk g = okF .bk g := (Eq.refl (okF .bk g)).trans rfl
theorem c_Sc {t : SM Fl} : cSeq t okF ex .ct g = okF .ct g := (Eq.refl (okF .ct g)).trans rfl
theorem p_seqS {s t : SM Fl} : Post okF ex (seqS s t g) = Post (cSeq t okF ex) ex (s g) :=
  post_bnd_eq.trans (congrArg (fun k => Post k ex (s g)) (funext fun fl => funext fun g1 => by cases fl <;> rfl))
theorem p_nxS : Post okF ex (nxS g) = okF .nx g := (Eq.refl (okF .nx g)).trans rfl
theorem p_bkS : Post okF ex (bkS g) = okF .bk g := (Eq.refl (okF .bk g)).trans rfl
theorem p_ctS : Post okF ex (ctS g) = okF .ct g := (Eq.refl (okF .ct g)).trans rfl
theorem p_exprS {da : SM EV} : Post okF ex (exprS da g) = Post (cB (fun _ => ret .nx) okF ex) ex (da g) := post_bnd_eq
theorem p_asgS {i : Nat} {da : SM EV} : Post okF ex (asgS i da g) = Post (cB (fun ev => bnd (mvE ev) fun s => setS i s) okF ex) ex (da g) := post_bnd_eq
theorem p_mvE_f {d : D} : Post okS ex (mvE (.fro d) g) = okS (.fro d) g := (Eq.refl (okS (.fro d) g)).trans rfl
theorem p_mvE_o {ds : List D} : Post okS ex (mvE (.own ds) g) = okS (.own ds) g := (Eq.refl (okS (.own ds) g)).trans rfl
theorem p_mvE_v {j : Nat} : Post okS ex (mvE (.var j) g) = Post (cB (fun d => ret (.fro d)) okS ex) ex (esc (.var j) g) := post_bnd_eq
def retR (i : Nat) (g : List Sl) : Option Sl → Res (Fl × List Sl)
  | some (.own ds) => .ok (.rt (.own ds), g.set i .un)
  | some (.fro d) => .ok (.rt (.fro d), g)
  | _ => .stuck
theorem p_retE_f {d : D} : Post okF ex (retE (.fro d) g) = okF (.rt (.fro d)) g := (Eq.refl (okF (.rt (.fro d)) g)).trans rfl
theorem p_retE_o {ds : List D} : Post okF ex (retE (.own ds) g) = okF (.rt (.own ds)) g := (Eq.refl (okF (.rt (.own ds)) g)).trans rfl
theorem p_retE_v {i : Nat} : Post okF ex (retE (.var i) g) = Post okF ex (retR i g g[i]?) := by
  show Post okF ex (retV i g) = _
  unfold retV
  cases g[i]? with
  | none => rfl
  | some s => cases s <;> rfl
theorem p_retS {da : SM EV} : Post okF ex (retS da g) = Post (cB retE okF ex) ex (da g) := post_bnd_eq
def setR (i : Nat) (s : Sl) (g : List Sl) : Option Sl → Res (Fl × List Sl)
  | some (.bor _) => .stuck
  | some _ => .ok (.nx, g.set i s)
  | none => .stuck
theorem setR_o {i : Nat} {s : Sl} {o : Option D} : setR i s g (some (opn o)) = .ok (.nx, g.set i s) := by cases o <;> rfl
theorem setR_f {i : Nat} {s : Sl} {d : D} : setR i s g (some (.fro d)) = .ok (.nx, g.set i s) := (Eq.refl (setR i s g (some (.fro d)))).trans rfl
theorem setR_w {i : Nat} {s : Sl} {d : List D} : setR i s g (some (.own d)) = .ok (.nx, g.set i s) := (Eq.refl (setR i s g (some (.own d)))).trans rfl
theorem setR_u {i : Nat} {s : Sl} : setR i s g (some .un) = .ok (.nx, g.set i s) := (Eq.refl (setR i s g (some .un))).trans rfl
theorem p_setS {i : Nat} {s : Sl} : Post okF ex (setS i s g) = Post okF ex (setR i s g g[i]?) := by
  unfold setS
  cases g[i]? with
  | none => rfl
  | some s => cases s <;> rfl
theorem p_setL_n : Post okU ex (setL [] [] g) = okU () g := (Eq.refl (okU () g)).trans rfl
theorem p_setL_c {i : Nat} {is : List Nat} {d : D} {ds : List D} : Post okU ex (setL (i :: is) (d :: ds) g) = Post (cB (fun _ => setL is ds) okU ex) ex (setS i (.fro d) g) := post_bnd_eq
theorem p_put1 {i : Nat} {d : D} : Post okU ex (Tg.put (.one i) d g) = Post (cB (fun _ => ret ()) okU ex) ex (setS i (.fro d) g) := post_bnd_eq
theorem p_putT {is : List Nat} {ds : List D} : Post okU ex (Tg.put (.tup is) (.tuple ds) g) = Post okU ex (setL is ds g) := (Eq.refl (Post okU ex (setL is ds g))).trans rfl
theorem p_endF_n {k : SM Fl} : Post okF ex (endF .nx k g) = Post okF ex (k g) := (Eq.refl (Post okF ex (k g))).trans rfl
theorem p_endF_c {k : SM Fl} : Post okF ex (endF .ct k g) = Post okF ex (k g) := (Eq.refl (Post okF ex (k g))).trans rfl
theorem p_endF_b {k : SM Fl} : Post okF ex (endF .bk k g) = okF .nx g := (Eq.refl (okF .nx g)).trans rfl
theorem p_endF_r {k : SM Fl} {e : EV} : Post okF ex (endF (.rt e) k g) = okF (.rt e) g := (Eq.refl (okF (.rt e) g)).trans rfl
def cFor (t : Tg) (b : SM Fl) (ok : Fl → List Sl → Prop) (ex : Nat → Str → D → List Sl → Prop) : List D → List Sl → Prop := fun ds g => Post ok ex (forL t b ds g)
theorem c_For {t : Tg} {b : SM Fl} {ds : List D} : cFor t b okF ex ds g = Post okF ex (forL t b ds g) := (Eq.refl (cFor t b okF ex ds g)).trans rfl
theorem p_forS {it : SM (List D)} {t : Tg} {b : SM Fl} : Post okF ex (forS it t b g) = Post (cFor t b okF ex) ex (it g) := post_bnd_eq
theorem p_whS {fu : List Sl → Nat} {t : SM Bool} {b : SM Fl} : Post okF ex (whS fu t b g) = Post okF ex (whL t b (fu g) g) := (Eq.refl (Post okF ex (whL t b (fu g) g))).trans rfl
def escAR (i : Nat) (g : List Sl) : Option Sl → Res (Sl × List Sl)
  | some (.fro d) => .ok (.fro d, g)
  | some (.own ds) => .ok (.fro (.list ds), g.set i (.fro (.list ds)))
  | some (.scr ns) => .ok (.scr ns, g)
  | _ => .stuck
theorem p_escA_f {d : D} : Post okS ex (escA (.fro d) g) = okS (.fro d) g := (Eq.refl (okS (.fro d) g)).trans rfl
theorem p_escA_o {ds : List D} : Post okS ex (escA (.own ds) g) = okS (.fro (.list ds)) g := (Eq.refl (okS (.fro (.list ds)) g)).trans rfl
theorem p_escA_v {i : Nat} : Post okS ex (escA (.var i) g) = Post okS ex (escAR i g g[i]?) := by
  show Post okS ex (match g[i]? with
    | some (.fro d) => Res.ok (.fro d, g)
    | some (.own ds) => .ok (.fro (.list ds), g.set i (.fro (.list ds)))
    | some (.scr ns) => .ok (.scr ns, g)
    | _ => .stuck) = _
  cases g[i]? with
  | none => rfl
  | some s => cases s <;> rfl
theorem p_escAL_n : Post okT ex (escAL [] g) = okT [] g := (Eq.refl (okT [] g)).trans rfl
theorem p_escAL_c {e : EV} {es : List EV} : Post okT ex (escAL (e :: es) g) = Post (cB (fun d => bnd (escAL es) fun ds => ret (d :: ds)) okT ex) ex (escA e g) := post_bnd_eq
/-- an answer -/
def cAn (ok : EV → List Sl → Prop) (ex : Nat → Str → D → List Sl → Prop) : FR → List Sl → Prop
  | .ok ev _, g => ok ev g
  | .exn k f p _, g => ex k f p g
  | .stuck, _ => False
theorem c_Ao {ev : EV} {b : Option (List D)} : cAn okE ex (.ok ev b) g = okE ev g := (Eq.refl (okE ev g)).trans rfl
theorem c_Ae {k : Nat} {f : Str} {p : D} {b : Option (List D)} : cAn okE ex (.exn k f p b) g = ex k f p g := (Eq.refl (ex k f p g)).trans rfl
def cAs (F : Fd) (ok : EV → List Sl → Prop) (ex : Nat → Str → D → List Sl → Prop) : List Sl → List Sl → Prop := fun as g => cAn ok ex (F as) g
theorem c_As {F : Fd} {as : List Sl} : cAs F okE ex as g = cAn okE ex (F as) g := (Eq.refl (cAs F okE ex as g)).trans rfl
def cCall (F : Fd) (ok : EV → List Sl → Prop) (ex : Nat → Str → D → List Sl → Prop) : List EV → List Sl → Prop := fun evs g => Post (cAs F ok ex) ex (escAL evs g)
theorem c_Call {F : Fd} {evs : List EV} : cCall F okE ex evs g = Post (cAs F okE ex) ex (escAL evs g) := (Eq.refl (cCall F okE ex evs g)).trans rfl
theorem p_callE {F : Fd} {da : SM (List EV)} : Post okE ex (callE F da g) = Post (cCall F okE ex) ex (da g) := by
  refine post_bnd_eq.trans (congrArg (fun k => Post k ex (da g)) (funext fun evs => funext fun g1 => post_bnd_eq.trans (congrArg (fun k => Post k ex (escAL evs g1)) (funext fun as => funext fun g2 => ?_))))
  show Post okE ex (ansE (F as) g2) = cAn okE ex (F as) g2
  cases F as <;> rfl
def cBa (s : List D → Sl) (i : Nat) (ok : EV → List Sl → Prop) (ex : Nat → Str → D → List Sl → Prop) : FR → List Sl → Prop
  | .ok ev (some ds'), g => ok ev (g.set i (s ds'))
  | .exn k x p (some ds'), g => ex k x p (g.set i (s ds'))
  | _, _ => False
theorem c_Bo {s : List D → Sl} {i : Nat} {ev : EV} {ds : List D} : cBa s i okE ex (.ok ev (some ds)) g = okE ev (g.set i (s ds)) := (Eq.refl (okE ev (g.set i (s ds)))).trans rfl
theorem c_Be {s : List D → Sl} {i : Nat} {k : Nat} {f : Str} {p : D} {ds : List D} : cBa s i okE ex (.exn k f p (some ds)) g = ex k f p (g.set i (s ds)) := (Eq.refl (ex k f p (g.set i (s ds)))).trans rfl
def cBr (F : Fd) (i : Nat) (as : List Sl) (ok : EV → List Sl → Prop) (ex : Nat → Str → D → List Sl → Prop) (g : List Sl) : Option Sl → Prop
  | some (.own ds) => cBa .own i ok ex (F (.bor ds :: as)) g
  | some (.bor ds) => cBa .bor i ok ex (F (.bor ds :: as)) g
  | _ => False
theorem c_Brw {F : Fd} {i : Nat} {as : List Sl} {ds : List D} : cBr F i as okE ex g (some (.own ds)) = cBa .own i okE ex (F (.bor ds :: as)) g := (Eq.refl (cBr F i as okE ex g (some (.own ds)))).trans rfl
theorem c_Brb {F : Fd} {i : Nat} {as : List Sl} {ds : List D} : cBr F i as okE ex g (some (.bor ds)) = cBa .bor i okE ex (F (.bor ds :: as)) g := (Eq.refl (cBr F i as okE ex g (some (.bor ds)))).trans rfl
theorem p_bor {F : Fd} {i : Nat} {as : List Sl} : Post okE ex (borCall F i as g) = cBr F i as okE ex g g[i]? := by
  rw [borCall_eq]
  cases g[i]? with
  | none => rfl
  | some s =>
    cases s with
    | own ds =>
      show Post okE ex (ansB .own i g (F (.bor ds :: as))) = cBa .own i okE ex (F (.bor ds :: as)) g
      cases F (.bor ds :: as) with
      | ok ev b => cases b <;> rfl
      | exn k x p b => cases b <;> rfl
      | stuck => rfl
    | bor ds =>
      show Post okE ex (ansB .bor i g (F (.bor ds :: as))) = cBa .bor i okE ex (F (.bor ds :: as)) g
      cases F (.bor ds :: as) with
      | ok ev b => cases b <;> rfl
      | exn k x p b => cases b <;> rfl
      | stuck => rfl
    | _ => rfl
def cCB (F : Fd) (ok : EV → List Sl → Prop) (ex : Nat → Str → D → List Sl → Prop) : List EV → List Sl → Prop
  | .var i :: r, g => Post (cB (fun as => borCall F i as) ok ex) ex (escAL r g)
  | _, _ => False
theorem c_CB {F : Fd} {i : Nat} {r : List EV} : cCB F okE ex (.var i :: r) g = Post (cB (fun as => borCall F i as) okE ex) ex (escAL r g) := (Eq.refl (cCB F okE ex (.var i :: r) g)).trans rfl
theorem p_callB {F : Fd} {da : SM (List EV)} : Post okE ex (callB F da g) = Post (cCB F okE ex) ex (da g) := by
  refine post_bnd_eq.trans (congrArg (fun k => Post k ex (da g)) (funext fun evs => funext fun g1 => ?_))
  cases evs with
  | nil => rfl
  | cons e r =>
    cases e with
    | var i => exact post_bnd_eq
    | _ => rfl
/-- a list of items -/
def cRn (ok : List D → List Sl → Prop) : Option (List D) → List Sl → Prop
  | some ds, g => ok ds g
  | none, _ => False
theorem c_Rn {ds : List D} : cRn okL (some ds) g = okL ds g := (Eq.refl (okL ds g)).trans rfl
theorem p_seqS' {d : D} : Post okL ex (seqS' d g) = cRn okL (seqOf d) g := by
  unfold seqS'
  cases seqOf d <;> rfl
theorem p_seqE {da : SM EV} : Post okL ex (seqE da g) = Post (cB (fun ev => bnd (esc (frz ev)) seqS') okL ex) ex (da g) := post_bnd_eq
def cRng (f : List D → Option (List D)) (ok : List D → List Sl → Prop) : List EV → List Sl → Prop := fun evs g => cRn ok ((lookL g evs).bind f) g
theorem c_Rng {f : List D → Option (List D)} {evs : List EV} : cRng f okL evs g = cRn okL ((lookL g evs).bind f) g := (Eq.refl (cRng f okL evs g)).trans rfl
theorem p_rng {f : List D → Option (List D)} {da : SM (List EV)} : Post okL ex (rngE f da g) = Post (cRng f okL) ex (da g) := by
  refine post_bnd_eq.trans (congrArg (fun k => Post k ex (da g)) (funext fun evs => funext fun g1 => ?_))
  unfold cRng
  cases (lookL g1 evs).bind f <;> rfl
theorem p_slE {da : SM EV} {lo hi : SM (Option Int)} : Post okE ex (slE da lo hi g) = Post (cB (fun ev => bnd lo fun l => bnd hi fun h => app1 (slF l h) (frz ev)) okE ex) ex (da g) := post_bnd_eq
def cPa (ok : Option Int → List Sl → Prop) : Option D → List Sl → Prop
  | some (.int i), g => ok (some i) g
  | _, _ => False
def cPart (ok : Option Int → List Sl → Prop) (ev : EV) (g : List Sl) : Prop := cPa ok (look g (frz ev)) g
theorem c_Part {ev : EV} : cPart okO ev g = cPa okO (look g (frz ev)) g := (Eq.refl (cPart okO ev g)).trans rfl
theorem c_Pa {i : Int} : cPa okO (some (.int i)) g = okO (some i) g := (Eq.refl (okO (some i) g)).trans rfl
theorem p_part {da : SM EV} : Post okO ex (partE da g) = Post (cPart okO) ex (da g) := by
  refine post_bnd_eq.trans (congrArg (fun k => Post k ex (da g)) (funext fun ev => funext fun g1 => ?_))
  unfold cPart
  show Post okO ex (match look g1 (frz ev) with
    | some (.int i) => Res.ok (some i, g1)
    | _ => .stuck) = _
  cases look g1 (frz ev) with
  | none => rfl
  | some d => cases d <;> rfl
def muR (g : List Sl) : Option Sl → Res (Unit × List Sl)
  | some (.own _) => .ok ((), g)
  | some (.bor _) => .ok ((), g)
  | _ => .stuck
theorem p_mu {i : Nat} : Post okU ex (muG i g) = Post okU ex (muR g g[i]?) := by
  unfold muG
  cases g[i]? with
  | none => rfl
  | some s => cases s <;> rfl
def slO (s : List D → Sl) (i : Nat) (g : List Sl) : Option (List D × D) → Res (EV × List Sl)
  | some (ds', r) => .ok (.fro r, g.set i (s ds'))
  | none => .stuck
theorem slO_s {s : List D → Sl} {i : Nat} {ds : List D} {r : D} : slO s i g (some (ds, r)) = .ok (.fro r, g.set i (s ds)) := (Eq.refl (slO s i g (some (ds, r)))).trans rfl
def slR (i : Nat) (f : List D → Option (List D × D)) (g : List Sl) : Option Sl → Res (EV × List Sl)
  | some (.own ds) => slO .own i g (f ds)
  | some (.bor ds) => slO .bor i g (f ds)
  | _ => .stuck
theorem slR_w {i : Nat} {f : List D → Option (List D × D)} {ds : List D} : slR i f g (some (.own ds)) = slO .own i g (f ds) := (Eq.refl (slO .own i g (f ds))).trans rfl
theorem slR_b {i : Nat} {f : List D → Option (List D × D)} {ds : List D} : slR i f g (some (.bor ds)) = slO .bor i g (f ds) := (Eq.refl (slO .bor i g (f ds))).trans rfl
theorem p_slot {i : Nat} {f : List D → Option (List D × D)} : Post okE ex (slotL i f g) = Post okE ex (slR i f g g[i]?) := by
  unfold slotL
  cases g[i]? with
  | none => rfl
  | some s =>
    cases s with
    | own ds =>
      show Post okE ex (match f ds with
        | some (ds', r) => Res.ok (EV.fro r, g.set i (.own ds'))
        | none => .stuck) = Post okE ex (slO .own i g (f ds))
      cases f ds <;> rfl
    | bor ds =>
      show Post okE ex (match f ds with
        | some (ds', r) => Res.ok (EV.fro r, g.set i (.bor ds'))
        | none => .stuck) = Post okE ex (slO .bor i g (f ds))
      cases f ds <;> rfl
    | _ => rfl
theorem p_popE {i : Nat} : Post okE ex (popE i g) = Post (cB (fun _ => slotL i popF) okE ex) ex (muG i g) := post_bnd_eq
theorem p_apE {i : Nat} {da : SM EV} : Post okE ex (apE i da g) = Post (cB (fun _ => onE da fun ev => bnd (esc ev) fun d => slotL i (appF d)) okE ex) ex (muG i g) := post_bnd_eq
def cRa (ex : Nat → Str → D → List Sl → Prop) (k : Nat) (f : Str) : Option D → List Sl → Prop
  | some d, g => ex k f d g
  | none, _ => False
theorem c_Ra {k : Nat} {f : Str} {d : D} : cRa ex k f (some d) g = ex k f d g := (Eq.refl (ex k f d g)).trans rfl
def cRD (ex : Nat → Str → D → List Sl → Prop) (k : Nat) (f : Str) (ini : D → Option D) : D → List Sl → Prop := fun d g => cRa ex k f (ini d) g
theorem c_RD {k : Nat} {f : Str} {ini : D → Option D} {d : D} : cRD ex k f ini d g = cRa ex k f (ini d) g := (Eq.refl (cRD ex k f ini d g)).trans rfl
def cRv (ex : Nat → Str → D → List Sl → Prop) (k : Nat) (f : Str) (ini : D → Option D) : EV → List Sl → Prop := fun ev g => Post (cRD ex k f ini) ex (esc ev g)
theorem c_Rv {k : Nat} {f : Str} {ini : D → Option D} {ev : EV} : cRv ex k f ini ev g = Post (cRD ex k f ini) ex (esc ev g) := (Eq.refl (cRv ex k f ini ev g)).trans rfl
theorem p_raise {k : Nat} {f : Str} {ini : D → Option D} {da : SM EV} : Post okF ex (raiseS k f ini da g) = Post (cRv ex k f ini) ex (da g) := by
  refine post_bnd_eq.trans (congrArg (fun k => Post k ex (da g)) (funext fun ev => funext fun g1 => post_bnd_eq.trans (congrArg (fun k => Post k ex (esc ev g1)) (funext fun d => funext fun g2 => ?_))))
  show Post okF ex (match ini d with
    | some d' => Res.exn k f d' g2
    | none => .stuck) = cRa ex k f (ini d) g2
  cases ini d <;> rfl
theorem p_asgT {t : Tg} {da : SM EV} : Post okF ex (asgT t da g) = Post (cB (fun ev => bnd (esc (frz ev)) fun d => bnd (t.put d) fun _ => ret .nx) okF ex) ex (da g) := post_bnd_eq
def cPar (is : List Nat) (ok : Fl → List Sl → Prop) (ex : Nat → Str → D → List Sl → Prop) : List EV → List Sl → Prop := fun evs g => if is.all (fun i => !(varsIn evs).contains i) = true then Post ok ex (setsS is evs g) else False
theorem c_Par {is : List Nat} {evs : List EV} : cPar is okF ex evs g = if is.all (fun i => !(varsIn evs).contains i) = true then Post okF ex (setsS is evs g) else False := (Eq.refl (cPar is okF ex evs g)).trans rfl
theorem p_par {is : List Nat} {da : SM (List EV)} : Post okF ex (parS is da g) = Post (cPar is okF ex) ex (da g) := by
  refine post_bnd_eq.trans (congrArg (fun k => Post k ex (da g)) (funext fun evs => funext fun g1 => ?_))
  unfold cPar
  by_cases h : is.all (fun i => !(varsIn evs).contains i) = true
  · rw [if_pos h, if_pos h]
  · rw [if_neg h, if_neg h]; rfl
theorem p_setsS_n : Post okF ex (setsS [] [] g) = okF .nx g := (Eq.refl (okF .nx g)).trans rfl
theorem p_setsS_c {i : Nat} {is : List Nat} {e : EV} {es : List EV} : Post okF ex (setsS (i :: is) (e :: es) g) = Post (cB (fun s => bnd (setS i s) fun _ => setsS is es) okF ex) ex (mvP e g) := post_bnd_eq
/-- a list comprehension -/
def cLo (vs : List Nat) (g1 : List Sl) (ok : EV → List Sl → Prop) : List D → List Sl → Prop := fun acc g2 => ok (.own acc) (restG vs g1 g2)
theorem c_Lo {vs : List Nat} {g1 : List Sl} {acc : List D} : cLo vs g1 okE acc g = okE (.own acc) (restG vs g1 g) := (Eq.refl (cLo vs g1 okE acc g)).trans rfl
def cLc (vs : List Nat) (t : Tg) (q : SM Bool) (el : SM EV) (ok : EV → List Sl → Prop) : List D → List Sl → Prop := fun ds g1 => Post (cLo vs g1 ok) (fun _ _ _ _ => False) (lcL vs t q el [] ds (wipeG g1 vs))
theorem c_Lc {vs : List Nat} {t : Tg} {q : SM Bool} {el : SM EV} {ds : List D} : cLc vs t q el okE ds g = Post (cLo vs g okE) (fun _ _ _ _ => False) (lcL vs t q el [] ds (wipeG g vs)) := (Eq.refl (cLc vs t q el okE ds g)).trans rfl
theorem p_lc {vs : List Nat} {it : SM (List D)} {t : Tg} {q : SM Bool} {el : SM EV} : Post okE ex (lcE vs it t q el g) = Post (cLc vs t q el okE) ex (it g) := post_lc_eq
/-- errors taken up -/
def cT (sb : Nat → Nat → Bool) (n : Nat) (hs : List Hdl) (ok : Fl → List Sl → Prop) (ex : Nat → Str → D → List Sl → Prop) : Nat → Str → D → List Sl → Prop := fun k f p g => if 0 < k ∧ k < n then Post ok ex (hand sb hs k f p g) else False
theorem c_T {sb : Nat → Nat → Bool} {n : Nat} {hs : List Hdl} {k : Nat} {f : Str} {p : D} : cT sb n hs okF ex k f p g = if 0 < k ∧ k < n then Post okF ex (hand sb hs k f p g) else False := (Eq.refl (cT sb n hs okF ex k f p g)).trans rfl
theorem p_try {sb : Nat → Nat → Bool} {n : Nat} {b : SM Fl} {hs : List Hdl} : Post okF ex (tryS sb n b hs g) = Post okF (cT sb n hs okF ex) (b g) := post_try_eq
theorem p_hand0 {sb : Nat → Nat → Bool} {k : Nat} {f : Str} {p : D} : Post okF ex (hand sb [] k f p g) = ex k f p g := (Eq.refl (ex k f p g)).trans rfl
def clI (i : Nat) : List Sl → List Sl := fun g' => cleanG (g'.set i .un)
theorem cl_I {i : Nat} : clI i g = cleanG (g.set i .un) := (Eq.refl (clI i g)).trans rfl
def exR (i k : Nat) (f : Str) (p : D) (s : SM Fl) (g : List Sl) : Option Sl → Res (Fl × List Sl)
  | some (.bor _) => .stuck
  | some _ => offS s (clI i) (g.set i (.exc k f p))
  | none => .stuck
theorem exR_o {i k : Nat} {f : Str} {p : D} {s : SM Fl} {o : Option D} : exR i k f p s g (some (opn o)) = offS s (clI i) (g.set i (.exc k f p)) := by cases o <;> rfl
theorem exR_f {i k : Nat} {f : Str} {p : D} {s : SM Fl} {o : D} : exR i k f p s g (some (.fro o)) = offS s (clI i) (g.set i (.exc k f p)) := (Eq.refl (offS s (clI i) (g.set i (.exc k f p)))).trans rfl
theorem exR_u {i k : Nat} {f : Str} {p : D} {s : SM Fl} : exR i k f p s g (some .un) = offS s (clI i) (g.set i (.exc k f p)) := (Eq.refl (offS s (clI i) (g.set i (.exc k f p)))).trans rfl
theorem p_handS {sb : Nat → Nat → Bool} {c i : Nat} {s : SM Fl} {r : List Hdl} {k : Nat} {f : Str} {p : D} : Post okF ex (hand sb ((c, some i, s) :: r) k f p g) = if sb k c = true then Post okF ex (exR i k f p s g g[i]?) else Post okF ex (hand sb r k f p g) := by
  show Post okF ex ((if sb k c = true then excP i k f p s else hand sb r k f p) g) = _
  by_cases h : sb k c = true
  · rw [if_pos h, if_pos h]
    unfold excP
    cases g[i]? with
    | none => rfl
    | some s => cases s <;> rfl
  · rw [if_neg h, if_neg h]
theorem p_handN {sb : Nat → Nat → Bool} {c : Nat} {s : SM Fl} {r : List Hdl} {k : Nat} {f : Str} {p : D} : Post okF ex (hand sb ((c, none, s) :: r) k f p g) = if sb k c = true then Post okF ex (offS s cleanG g) else Post okF ex (hand sb r k f p g) := by
  show Post okF ex ((if sb k c = true then offS s cleanG else hand sb r k f p) g) = _
  by_cases h : sb k c = true
  · rw [if_pos h, if_pos h]
  · rw [if_neg h, if_neg h]
def cOff (cl : List Sl → List Sl) (ok : Fl → List Sl → Prop) : Fl → List Sl → Prop := fun fl g => if okFl fl = true then ok fl (cl g) else False
theorem c_Off {cl : List Sl → List Sl} {fl : Fl} : cOff cl okF fl g = if okFl fl = true then okF fl (cl g) else False := (Eq.refl (cOff cl okF fl g)).trans rfl
theorem p_off {s : SM Fl} {cl : List Sl → List Sl} : Post okF ex (offS s cl g) = Post (cOff cl okF) (fun _ _ _ _ => False) (s g) := post_off_eq
def isR (sb : Nat → Nat → Bool) (n : Nat) (cs : List Nat) (g : List Sl) : Option Sl → Res (EV × List Sl)
  | some (.exc k _ _) => if 0 < k ∧ k < n then .ok (.fro (.bool (cs.any (sb k))), g) else .stuck
  | _ => .stuck
theorem p_isx {sb : Nat → Nat → Bool} {n i : Nat} {cs : List Nat} : Post okE ex (isxE sb n i cs g) = Post okE ex (isR sb n cs g g[i]?) := by
  unfold isxE
  cases g[i]? with
  | none => rfl
  | some s => cases s <;> rfl
def fldR (n : Nat) (x : Str) (g : List Sl) : Option Sl → Res (EV × List Sl)
  | some (.exc k f p) => if 0 < k ∧ k < n ∧ f = x then .ok (.fro p, g) else .stuck
  | _ => .stuck
theorem p_fld {n i : Nat} {x : Str} : Post okE ex (fldE n i x g) = Post okE ex (fldR n x g g[i]?) := by
  unfold fldE
  cases g[i]? with
  | none => rfl
  | some s => cases s <;> rfl
theorem clean_o {o : Option D} : cleanS (opn o) = opn o := by cases o <;> rfl
end
/-- one turn of a comprehension -/
def cS4 (vs : List Nat) (I : Nat → List D → List Sl → Prop) (i : Nat) (acc : List D) : D → List Sl → Prop := fun x g4 => acc.length < SZ ∧ I (i + 1) (acc ++ [x]) (wipeG g4 vs)
theorem c_S4 {vs : List Nat} {I : Nat → List D → List Sl → Prop} {i : Nat} {acc : List D} {x : D} {g : List Sl} : cS4 vs I i acc x g = (acc.length < SZ ∧ I (i + 1) (acc ++ [x]) (wipeG g vs)) := (Eq.refl (cS4 vs I i acc x g)).trans rfl
def cS3 (vs : List Nat) (I : Nat → List D → List Sl → Prop) (i : Nat) (acc : List D) : EV → List Sl → Prop := fun ev g3 => Post (cS4 vs I i acc) (fun _ _ _ _ => False) (esc (frz ev) g3)
theorem c_S3 {vs : List Nat} {I : Nat → List D → List Sl → Prop} {i : Nat} {acc : List D} {ev : EV} {g : List Sl} : cS3 vs I i acc ev g = Post (cS4 vs I i acc) (fun _ _ _ _ => False) (esc (frz ev) g) := (Eq.refl (cS3 vs I i acc ev g)).trans rfl
def cS2 (vs : List Nat) (el : SM EV) (I : Nat → List D → List Sl → Prop) (i : Nat) (acc : List D) : Bool → List Sl → Prop := fun b g2 => if b = true then Post (cS3 vs I i acc) (fun _ _ _ _ => False) (el g2) else I (i + 1) acc (wipeG g2 vs)
theorem c_S2t {vs : List Nat} {el : SM EV} {I : Nat → List D → List Sl → Prop} {i : Nat} {acc : List D} {g : List Sl} : cS2 vs el I i acc true g = Post (cS3 vs I i acc) (fun _ _ _ _ => False) (el g) := (Eq.refl (cS2 vs el I i acc true g)).trans rfl
theorem c_S2f {vs : List Nat} {el : SM EV} {I : Nat → List D → List Sl → Prop} {i : Nat} {acc : List D} {g : List Sl} : cS2 vs el I i acc false g = I (i + 1) acc (wipeG g vs) := (Eq.refl (cS2 vs el I i acc false g)).trans rfl
def cS1 (vs : List Nat) (q : SM Bool) (el : SM EV) (I : Nat → List D → List Sl → Prop) (i : Nat) (acc : List D) : Unit → List Sl → Prop := fun _ g1 => Post (cS2 vs el I i acc) (fun _ _ _ _ => False) (q g1)
theorem c_S1 {vs : List Nat} {q : SM Bool} {el : SM EV} {I : Nat → List D → List Sl → Prop} {i : Nat} {acc : List D} {u : Unit} {g : List Sl} : cS1 vs q el I i acc u g = Post (cS2 vs el I i acc) (fun _ _ _ _ => False) (q g) := (Eq.refl (cS1 vs q el I i acc u g)).trans rfl
-- runs a denotation under Post
end Mw
open PySem L2 Mw
local macro_rules
  | `(tactic| simp_arith [$ts,*]) => `(tactic| simp only [↓Mw.c_B, ↓Mw.p_bnd, ↓Mw.p_ok, ↓Mw.p_exn, ↓Mw.p_stuck, ↓Mw.p_ret, ↓Mw.p_onE, ↓Mw.p_cst, ↓Mw.p_vr, ↓Mw.p_vrS, ↓Mw.p_scr, ↓Mw.cO_s, ↓Mw.p_app1, ↓Mw.p_app2, ↓Mw.p_appN, ↓Mw.p_op1, ↓Mw.p_op2, ↓Mw.p_opN, ↓Mw.p_argsNil, ↓Mw.p_argsCons, ↓Mw.p_argsW, ↓Mw.p_esc_f, ↓Mw.p_esc_o, ↓Mw.p_esc_v, ↓Mw.p_escL_n, ↓Mw.p_escL_c, ↓Mw.c_Tup, ↓Mw.c_Lst, ↓Mw.c_EscL, ↓Mw.p_tup, ↓Mw.p_lst, ↓Mw.c_Tst, ↓Mw.c_Ts, ↓Mw.p_tst, ↓Mw.c_Tru, ↓Mw.c_Tr, ↓Mw.p_tru, ↓Mw.c_It, ↓Mw.c_If, ↓Mw.p_andT, ↓Mw.p_orT, ↓Mw.p_ifE, ↓Mw.p_ifS, ↓Mw.p_andV, ↓Mw.p_orV, ↓Mw.c_N, ↓Mw.c_NV, ↓Mw.p_notT, ↓Mw.p_notV, ↓Mw.p_notX, ↓Mw.c_V, ↓Mw.p_valT, ↓Mw.p_chX, ↓Mw.p_chE, ↓Mw.c_Sn, ↓Mw.c_Sr, ↓Mw.c_Sb, ↓Mw.c_Sc, ↓Mw.p_seqS, ↓Mw.p_nxS, ↓Mw.p_bkS, ↓Mw.p_ctS, ↓Mw.p_exprS, ↓Mw.p_asgS, ↓Mw.p_mvE_f, ↓Mw.p_mvE_o, ↓Mw.p_mvE_v, ↓Mw.p_retE_f, ↓Mw.p_retE_o, ↓Mw.p_retE_v, ↓Mw.p_retS, ↓Mw.p_setS, ↓Mw.p_setL_n, ↓Mw.p_setL_c, ↓Mw.p_put1, ↓Mw.p_putT, ↓Mw.p_endF_n, ↓Mw.p_endF_c, ↓Mw.p_endF_b, ↓Mw.p_endF_r, ↓Mw.c_For, ↓Mw.p_forS, ↓Mw.p_whS, ↓Mw.p_escA_f, ↓Mw.p_escA_o, ↓Mw.p_escA_v, ↓Mw.p_escAL_n, ↓Mw.p_escAL_c, ↓Mw.c_Ao, ↓Mw.c_Ae, ↓Mw.c_As, ↓Mw.c_Call, ↓Mw.p_callE, ↓Mw.c_Bo, ↓Mw.c_Be, ↓Mw.c_Brw, ↓Mw.c_Brb, ↓Mw.p_bor, ↓Mw.c_CB, ↓Mw.p_callB, ↓Mw.c_Rn, ↓Mw.p_seqS', ↓Mw.p_seqE, ↓Mw.c_Rng, ↓Mw.p_rng, ↓Mw.p_slE, ↓Mw.c_Part, ↓Mw.c_Pa, ↓Mw.p_part, ↓Mw.p_mu, ↓Mw.p_slot, ↓Mw.p_popE, ↓Mw.p_apE, ↓Mw.c_Ra, ↓Mw.c_RD, ↓Mw.c_Rv, ↓Mw.p_raise, ↓Mw.p_asgT, ↓Mw.c_Par, ↓Mw.p_par, ↓Mw.p_setsS_n, ↓Mw.p_setsS_c, ↓Mw.c_Lo, ↓Mw.c_Lc, ↓Mw.p_lc, ↓Mw.c_T, ↓Mw.p_try, ↓Mw.p_hand0, ↓Mw.p_handS, ↓Mw.p_handN, ↓Mw.c_Off, ↓Mw.p_off, ↓Mw.p_isx, ↓Mw.p_fld, ↓Mw.c_S1, ↓Mw.c_S2t, ↓Mw.c_S2f, ↓Mw.c_S3, ↓Mw.c_S4,
      Mw.vrR, Mw.vrSR, Mw.scrR, Mw.escR, Mw.retR, Mw.setR_o, Mw.setR_f, Mw.setR_w, Mw.setR_u, Mw.escAR, Mw.muR, Mw.slO_s, Mw.slR_w, Mw.slR_b, Mw.exR_o, Mw.exR_f, Mw.exR_u, Mw.isR, Mw.fldR, Mw.cl_I, Mw.clean_o, Mw.look, Mw.lookL, Mw.slD, Mw.frz, Mw.Out.ev, Mw.truD, Mw.isNon, Mw.isBl, Mw.seqOf, Mw.seqF, Mw.isTy, Mw.mvP, Mw.varsIn, Mw.okFl, Mw.cleanG, Mw.cleanS, Mw.revA, Mw.wipeG, Mw.restG, Mw.keepSl, Mw.flEv, Mw.borOf, Mw.chk, Mw.eqD_ii, Mw.neD_ii, Mw.addD_ii, Mw.subD_ii, Mw.negD_i, Mw.ltD_ii, Mw.leD_ii, Mw.gtD_ii, Mw.geD_ii, Mw.modD_ii, Mw.divD_ii, Mw.mulA_ii, Mw.rngF1_ok, Mw.rngF2_ok, Mw.lenF_l, Mw.lenF_t, Mw.intF_i, Mw.absF_i, Mw.maxF_ii, Mw.minF_ii, Mw.listF_l, Mw.listF_t, Mw.tupleF_l, Mw.tupleF_t, Mw.appF_ok, Mw.popF_app, Mw.ixD_l, Mw.ixD_t, Mw.isNF_d, Mw.noNF_d, Mw.isBD_d, Mw.isiF_i, Mw.isiF_b, Mw.isiF_s, Mw.isiF_l, Mw.isiF_t, Mw.isiF_n,
      List.length_cons, List.length_nil, List.append_nil, List.nil_append, List.cons_append, List.replicate, List.getElem?_cons_zero, List.getElem?_cons_succ, List.set_cons_zero, List.set_cons_succ, List.map_cons, List.map_nil, List.any_cons, List.any_nil, List.headD, Mw.ob_some, Mw.ob_none, Option.map_some, Option.map_none, Option.some.injEq, if_true, if_false, Bool.false_eq_true, reduceCtorEq, decide_true, decide_false, Bool.and_self, Bool.or_self, Bool.not_true, Bool.not_false, Bool.true_or, Bool.false_or, Bool.or_true, Bool.or_false, Bool.true_and, Bool.false_and, Bool.and_true, Bool.and_false, reduceIte, Int.reduceLT, Int.reduceLE, Int.reduceEq, Int.reduceGT, Int.reduceAdd, Int.reduceSub, Int.reduceNeg, Int.reduceMul, Int.zero_add, Nat.reduceAdd, Nat.reduceEqDiff, Nat.reduceLT, Nat.reduceLeDiff, $ts,*])
namespace Mw
open PySem L2

theorem for_wp {t : Tg} {b : SM Fl} {Q : Fl → List Sl → Prop} {ex : Nat → Str → D → List Sl → Prop} (I : Nat → List Sl → Prop) {ds : List D} {g : List Sl} (h0 : I 0 g)
    (step : ∀ i d g, ds[i]? = some d → I i g → Post (fun fl g' => match fl with
      | .nx => I (i + 1) g'
      | .ct => I (i + 1) g'
      | .bk => Q .nx g'
      | .rt v => Q (.rt v) g') ex (bnd (t.put d) (fun _ => b) g)) (fin : ∀ g, I ds.length g → Q .nx g) : Post Q ex (forL t b ds g) := by
  suffices h : ∀ (l : List D) (i : Nat) (g : List Sl), ds.drop i = l → i ≤ ds.length → I i g → Post Q ex (forL t b l g) from h ds 0 g rfl (Nat.zero_le _) h0
  intro l
  induction l with
  | nil =>
    intro i g e hi hI
    have : i = ds.length := by
      have := congrArg List.length e
      rw [List.length_drop, List.length_nil] at this
      omega
    subst this
    exact fin g hI
  | cons d l ih =>
    intro i g e hi hI
    have hlt : i < ds.length := by
      have := congrArg List.length e
      rw [List.length_drop, List.length_cons] at this
      omega
    have e2 : ds[i]? = some d ∧ ds.drop (i + 1) = l := by
      rw [List.drop_eq_getElem_cons hlt] at e
      injection e with e3 e4
      exact ⟨by rw [List.getElem?_eq_getElem hlt, e3], e4⟩
    have st := step i d g e2.1 hI
    refine post_bnd.mpr ?_
    refine post_mono (post_bnd.mp st) (fun u g1 h1 => post_bnd.mpr (post_mono h1 (fun fl g2 h2 => ?_) fun _ _ _ _ q => q)) fun _ _ _ _ q => q
    cases fl with
    | nx => exact ih (i + 1) g2 e2.2 hlt h2
    | ct => exact ih (i + 1) g2 e2.2 hlt h2
    | bk => exact h2
    | rt v => exact h2
/-- a loop: I holds ahead of each turn, J behind it, K where it returns -/
theorem for_br {t : Tg} {b : SM Fl} {Q : Fl → List Sl → Prop} {ex : Nat → Str → D → List Sl → Prop} (I : Nat → List Sl → Prop) (J : List Sl → Prop) (K : EV → List Sl → Prop) {ds : List D} {g : List Sl} (h0 : I 0 g)
    (step : ∀ i d g, ds[i]? = some d → I i g → Post (fun fl g' => match fl with
      | .nx => I (i + 1) g'
      | .ct => I (i + 1) g'
      | .bk => J g'
      | .rt v => K v g') ex (bnd (t.put d) (fun _ => b) g)) (h1 : ∀ g, I ds.length g → J g) (hJ : ∀ g, J g → Q .nx g) (hK : ∀ v g, K v g → Q (.rt v) g) : Post Q ex (forL t b ds g) :=
  for_wp I h0 (fun i d g hi hI => post_mono (step i d g hi hI) (fun fl g' h => by
    cases fl with
    | nx => exact h
    | ct => exact h
    | bk => exact hJ g' h
    | rt v => exact hK v g' h) fun _ _ _ _ q => q) fun g h => hJ g (h1 g h)
/-- a loop that runs to its end -/
theorem for_nx {t : Tg} {b : SM Fl} {Q : Fl → List Sl → Prop} {ex : Nat → Str → D → List Sl → Prop} (I : Nat → List Sl → Prop) {ds : List D} {g : List Sl} (h0 : I 0 g)
    (step : ∀ i d g, ds[i]? = some d → I i g → Post (fun fl g' => match fl with
      | .nx => I (i + 1) g'
      | .ct => I (i + 1) g'
      | .bk => False
      | .rt _ => False) ex (bnd (t.put d) (fun _ => b) g)) (fin : ∀ g, I ds.length g → Q .nx g) : Post Q ex (forL t b ds g) :=
  for_br I (I ds.length) (fun _ _ => False) h0 (fun i d g hi hI => post_mono (step i d g hi hI) (fun fl g' h => by
    cases fl with
    | nx => exact h
    | ct => exact h
    | bk => exact h.elim
    | rt v => exact h) fun _ _ _ _ q => q) (fun _ h => h) fin fun _ _ h => h.elim
theorem lc_wp {vs : List Nat} {t : Tg} {q : SM Bool} {el : SM EV} (I : Nat → List D → List Sl → Prop) {ds acc : List D} {g : List Sl} {ok : List D → List Sl → Prop} (h0 : I 0 acc g)
    (step : ∀ i d acc g, ds[i]? = some d → I i acc g → Post (cS1 vs q el I i acc) (fun _ _ _ _ => False) (t.put d g))
    (fin : ∀ acc g, I ds.length acc g → ok acc g) : Post ok (fun _ _ _ _ => False) (lcL vs t q el acc ds g) := by
  suffices h : ∀ (l : List D) (i : Nat) (acc : List D) (g : List Sl), ds.drop i = l → i ≤ ds.length → I i acc g → Post ok (fun _ _ _ _ => False) (lcL vs t q el acc l g) from h ds 0 acc g rfl (Nat.zero_le _) h0
  intro l
  induction l with
  | nil =>
    intro i acc g e hi hI
    have : i = ds.length := by
      have := congrArg List.length e
      rw [List.length_drop, List.length_nil] at this
      omega
    subst this
    exact fin acc g hI
  | cons d l ih =>
    intro i acc g e hi hI
    have hlt : i < ds.length := by
      have := congrArg List.length e
      rw [List.length_drop, List.length_cons] at this
      omega
    have e2 : ds[i]? = some d ∧ ds.drop (i + 1) = l := by
      rw [List.drop_eq_getElem_cons hlt] at e
      injection e with e3 e4
      exact ⟨by rw [List.getElem?_eq_getElem hlt, e3], e4⟩
    have st := step i d acc g e2.1 hI
    unfold lcL
    refine post_bnd.mpr (post_mono st (fun _ g1 h1 => post_bnd.mpr (post_mono h1 (fun b g2 h2 => ?_) fun _ _ _ _ q => q)) fun _ _ _ _ q => q)
    cases b with
    | false => exact ih (i + 1) acc _ e2.2 hlt h2
    | true =>
      refine post_bnd.mpr (post_mono h2 (fun ev g3 h3 => post_bnd.mpr (post_mono h3 (fun x g4 h4 => ?_) fun _ _ _ _ q => q)) fun _ _ _ _ q => q)
      show Post _ _ ((if acc.length < SZ then lcL vs t q el (acc ++ [x]) l (wipeG g4 vs) else .stuck))
      rw [if_pos h4.1]
      exact ih (i + 1) _ _ e2.2 hlt h4.2
theorem fd_post {n m : Nat} {body : SM Fl} {as : List Sl} {R : FR → Prop} (hn : as.length = n) (h : Post (fun fl g' => ∃ ev, flEv fl = some ev ∧ R (chk as g' (.ok ev (borOf g')))) (fun k f p g' => R (chk as g' (.exn k f p (borOf g')))) (body (as ++ List.replicate m .un))) : R (fdN n m body as) := by
  unfold fdN
  rw [if_pos hn]
  unfold fdD
  cases e : body (as ++ List.replicate m .un) with
  | ok x =>
    obtain ⟨fl, g⟩ := x
    rw [e] at h
    obtain ⟨ev, e1, h⟩ := h
    simp only [e1]
    exact h
  | exn k f p g => rw [e] at h; exact h
  | stuck => rw [e] at h; exact h.elim

/-! ## the tape -/
def Tape (ds : List D) : Prop := ∀ d ∈ ds, ∃ i, d = PyData.int i
theorem tape_nil : Tape [] := fun _ h => nomatch h
theorem tape_app {ds : List D} {i : Int} (h : Tape ds) : Tape (ds ++ [.int i]) := fun d hd => by
  rcases List.mem_append.mp hd with hd | hd
  · exact h d hd
  · rw [List.mem_singleton.mp hd]; exact ⟨i, rfl⟩
def d_take : SM Fl := (seqS (ifS (tstE (op2 eqD (opN lenF (argsCons (vr 0) argsNil)) (cst (.int 0)))) (retS (cst (.int 0))) nxS)
      (retS (op2 modD (opN intF (argsCons (popE 0) argsNil)) (vr 1))))
def F_take : Fd := fdN 2 0 d_take
theorem take_ok {ds : List D} {m : Int} (hm : 0 < m) (T : Tape ds) : ∃ r ds', F_take [.bor ds, .fro (.int m)] = .ok (.fro (.int r)) (some ds') ∧ 0 ≤ r ∧ r < m ∧ Tape ds' := by
  rcases List.eq_nil_or_concat ds with rfl | ⟨l, x, rfl⟩
  · exact ⟨0, [], rfl, Int.le_refl _, hm, tape_nil⟩
  · obtain ⟨i, rfl⟩ := T x (by simp)
    refine ⟨i % m, l, ?_, Int.emod_nonneg _ (by omega), Int.emod_lt_of_pos _ hm, fun d hd => T d (by simp [hd])⟩
    rw [List.concat_eq_append]
    have h0 : ¬ ((l ++ [PyData.int i]).length : Int) = 0 := by simp; omega
    simp_arith! [F_take, d_take, h0, List.getLast?_append, List.getLast?_singleton, Option.some_or, List.dropLast_concat, hm]

theorem seqF_get {ds : List D} {i : Nat} {d : D} (T : Tape ds) (h : ds[i]? = some d) : ∃ n, d = .int n := T d (List.mem_of_getElem? h)
theorem rngL_at : ∀ {lo : Int} {n i : Nat} {d : D}, (rngL lo n)[i]? = some d → d = .int (lo + i) ∧ i < n
  | _, 0, _, _, h => by simp [rngL] at h
  | lo, n + 1, 0, d, h => by
    have : PyData.int lo = d := by simpa [rngL] using h
    exact ⟨by rw [← this]; simp, by omega⟩
  | lo, n + 1, i + 1, d, h => by
    obtain ⟨h1, h2⟩ := rngL_at (lo := lo + 1) (n := n) (i := i) (d := d) (by simpa [rngL] using h)
    exact ⟨by rw [h1]; congr 1; omega, by omega⟩
def d_tape : SM Fl := (seqS (asgS 1 (lstE argsNil))
      (seqS (forS (seqE (scrE 0 40)) (.one 2) (seqS (asgS 3 (op2 modD (opN absF (argsCons (opN intF (argsCons (vr 2) argsNil)) argsNil)) (op2 powD (cst (.int 60)) (cst (.int 15)))))
      (seqS (ifS (tstE (op2 ltD (opN intF (argsCons (vr 2) argsNil)) (cst (.int 0)))) (asgS 3 (op2 addD (op2 mulA (vr 3) (cst (.int 7))) (cst (.int 11)))) nxS)
      (forS (rngE rngF1 (argsCons (cst (.int 18)) argsNil)) (.one 4) (seqS (exprS (apE 1 (op2 modD (opN intF (argsCons (vr 3) argsNil)) (cst (.int 60)))))
      (seqS (asgS 3 (op2 divD (vr 3) (cst (.int 60))))
      (ifS (tstE (op2 eqD (vr 3) (cst (.int 0)))) bkS nxS)))))))
      (seqS (asgS 5 (opN lenF (argsCons (vr 1) argsNil)))
      (retS (lcE [6] (rngE rngF1 (argsCons (vr 5) argsNil)) (.one 6) (ret true) (op2 ixD (vr 1) (op2 subD (op2 subD (vr 5) (cst (.int 1))) (vr 6))))))))
def F_tape : Fd := fdN 1 6 d_tape
theorem tape_in {ns : List Int} {T : List D} {o2 : D} {o4 : Option D} {r : Int} {Q : Fl → List Sl → Prop} {ex : Nat → Str → D → List Sl → Prop} (hT : Tape T) (hl : T.length ≤ 1000)
    (q : ∀ T' o3 o4, Tape T' → T'.length ≤ T.length + 18 → Q .nx [.scr ns, .own T', .fro o2, opn o3, opn o4, .un, .un]) :
    Post Q ex (forL (.one 4) (seqS (exprS (apE 1 (op2 modD (opN intF (argsCons (vr 3) argsNil)) (cst (.int 60)))))
      (seqS (asgS 3 (op2 divD (vr 3) (cst (.int 60))))
      (ifS (tstE (op2 eqD (vr 3) (cst (.int 0)))) bkS nxS))) (rngL 0 (Int.toNat 18)) [.scr ns, .own T, .fro o2, .fro (.int r), opn o4, .un, .un]) := by
  have hlr : (rngL 0 (18 : Int).toNat).length = 18 := rngL_len _ _
  refine for_br (fun i g => ∃ T' r o4, g = [.scr ns, .own T', .fro o2, .fro (.int r), opn o4, .un, .un] ∧ Tape T' ∧ T'.length ≤ T.length + i)
    (fun g => ∃ T' o3 o4, g = [.scr ns, .own T', .fro o2, opn o3, opn o4, .un, .un] ∧ Tape T' ∧ T'.length ≤ T.length + 18) (fun _ _ => False) ⟨T, r, o4, rfl, hT, Nat.le_refl _⟩ ?_ ?_ ?_ fun _ _ h => h.elim
  · rintro i d g hi ⟨T', r, o4, rfl, hT', hl'⟩
    obtain ⟨rfl, hlt⟩ := rngL_at hi
    have h18 : (18 : Int).toNat = 18 := rfl
    have hl2 : T'.length < SZ := by
      have : SZ = 16777216 := rfl
      omega
    have hd : divOk 60 = true := by decide
    simp_arith [hl2, hd]
    have hT2 : Tape (T' ++ [PyData.int (r % 60)]) := tape_app hT'
    have hlen : (T' ++ [PyData.int (r % 60)]).length = T'.length + 1 := by simp
    by_cases c : r / 60 = 0
    · rw [decide_eq_true c]
      simp_arith []
      exact ⟨_, some _, some _, rfl, hT2, by omega⟩
    · rw [decide_eq_false c]
      simp_arith []
      exact ⟨_, _, some _, rfl, hT2, by omega⟩
  · rintro g ⟨T', r, o4, rfl, hT', hl'⟩
    exact ⟨T', some _, o4, rfl, hT', by omega⟩
  · rintro g ⟨T', o3, o4, rfl, hT', hl'⟩
    exact q T' o3 o4 hT' hl'
theorem atI_nat {α : Type} {xs : List α} {i : Int} (h0 : 0 ≤ i) (h1 : i < xs.length) : atI xs i = xs[i.toNat]? := by
  unfold atI ixN
  rw [if_pos h0, if_pos h1]; rfl
theorem pow60 : powD (.int 60) (.int 15) = some (.val (.int 470184984576000000000000000)) := rfl
theorem mulOk_7 (r : Int) (h0 : 0 ≤ r) (h : r < 470184984576000000000000000) : mulOk r 7 = true := by
  unfold mulOk
  have h1 : r.natAbs.log2 ≤ 100 := by
    by_cases hr : r.natAbs = 0
    · rw [hr]; decide
    · have : r.natAbs.log2 < 101 := (Nat.log2_lt hr).mpr (by
        have : (470184984576000000000000000 : Nat) ≤ 2 ^ 101 := by decide
        omega)
      omega
  have h2 : (7 : Int).natAbs.log2 = 2 := by decide
  rw [h2]
  exact decide_eq_true (by omega)
theorem rOk_small {i : Int} (h0 : -4611686018427387904 ≤ i) (h1 : i < 4611686018427387904) : rOk i = true := by
  unfold rOk
  have e : (2 : Int) ^ 62 = 4611686018427387904 := by decide
  rw [e]
  exact decide_eq_true ⟨h0, h1⟩
theorem tape_ok (ns : List Int) : ∃ T, F_tape [.scr ns] = .ok (.own T) none ∧ Tape T := by
  refine fd_post (R := fun r => ∃ T, r = .ok (.own T) none ∧ Tape T) rfl ?_
  simp_arith [d_tape]
  have hlen : ((ns.take 40).map PyData.int).length ≤ 40 := by simp; omega
  refine for_nx (fun i g => ∃ T o2 o3 o4, g = [.scr ns, .own T, opn o2, opn o3, opn o4, .un, .un] ∧ Tape T ∧ T.length ≤ 18 * i) ⟨[], none, none, none, rfl, tape_nil, Nat.le_refl _⟩ ?_ ?_
  · rintro i d g hi ⟨T, o2, o3, o4, rfl, hT, hl⟩
    obtain ⟨z, rfl⟩ : ∃ z, d = .int z := by
      rw [List.getElem?_map] at hi
      cases e : (ns.take 40)[i]? with
      | none => rw [e] at hi; cases hi
      | some z => rw [e] at hi; exact ⟨z, (Option.some.inj hi).symm⟩
    have hi40 : i < 40 := by
      have := (List.getElem?_eq_some_iff.mp hi).1
      omega
    have hm : (0 : Int) < 470184984576000000000000000 := by decide
    have h18 : rOk 18 = true := by decide
    generalize hb : (seqS (exprS (apE 1 (op2 modD (opN intF (argsCons (vr 3) argsNil)) (cst (.int 60)))))
      (seqS (asgS 3 (op2 divD (vr 3) (cst (.int 60))))
      (ifS (tstE (op2 eqD (vr 3) (cst (.int 0)))) bkS nxS))) = body
    simp_arith [pow60, hm, h18]
    by_cases c : z < 0
    · rw [decide_eq_true c]
      simp_arith []
      have hmul := mulOk_7 ((if z < 0 then -z else z) % 470184984576000000000000000) (Int.emod_nonneg _ (by decide)) (Int.emod_lt_of_pos _ hm)
      simp_arith [hmul]
      subst hb
      exact tape_in hT (by omega) fun T' o3 o4 hT' hl' => ⟨T', some _, o3, o4, rfl, hT', by omega⟩
    · rw [decide_eq_false c]
      simp_arith []
      subst hb
      exact tape_in hT (by omega) fun T' o3 o4 hT' hl' => ⟨T', some _, o3, o4, rfl, hT', by omega⟩
  · generalize ((ns.take 40).map PyData.int).length = n at hlen
    intro g h
    obtain ⟨T, o2, o3, o4, e, hT, hl⟩ := h
    subst e
    have hTl : (T.length : Int) ≤ 720 := by omega
    have hr : rOk (T.length : Int) = true := rOk_small (by omega) (by omega)
    simp_arith [hr]
    refine lc_wp (fun i acc g => g = [.scr ns, .own T, opn o2, opn o3, opn o4, .fro (.int T.length), .un] ∧ Tape acc ∧ acc.length = i) ⟨rfl, tape_nil, rfl⟩ ?_ ?_
    · rintro i d acc g hi ⟨rfl, hA, hl2⟩
      obtain ⟨rfl, hlt⟩ := rngL_at hi
      have hi2 : i < T.length := by omega
      have hx : atI T ((T.length : Int) - 1 - i) = T[(((T.length : Int) - 1 - i)).toNat]? := atI_nat (by omega) (by omega)
      have hj : ((T.length : Int) - 1 - i).toNat < T.length := by omega
      obtain ⟨z, hz⟩ := hT T[((T.length : Int) - 1 - i).toNat] (List.getElem_mem hj)
      have hx2 : atI T ((T.length : Int) - 1 - i) = some (.int z) := by rw [hx, List.getElem?_eq_getElem hj, hz]
      have hs : acc.length < SZ := by
        have : SZ = 16777216 := rfl
        omega
      simp_arith [hx2, hs]
      refine ⟨trivial, trivial, tape_app hA, by rw [List.length_append, hl2]; rfl⟩
    · rintro acc g ⟨rfl, hA, hl2⟩
      simp_arith []
      exact ⟨_, rfl, acc, rfl, hA⟩
end Mw
namespace Mw
open PySem L2
/-! ## told = due -/
mutual
def plB : D → Bool
  | .none => true
  | .bool _ => true
  | .int _ => true
  | .str x => shp (.str x)
  | .tuple ds => plA ds
  | _ => false
def plA : List D → Bool
  | [] => true
  | d :: ds => plB d && plA ds
end
mutual
def szD : D → Nat
  | .tuple ds => 1 + szA ds
  | _ => 1
def szA : List D → Nat
  | [] => 0
  | d :: ds => szD d + szA ds
end
theorem plA_app : ∀ {a b : List D}, plA (a ++ b) = (plA a && plA b)
  | [], b => by simp [plA]
  | d :: a, b => by rw [List.cons_append, plA, plA, plA_app, Bool.and_assoc]
theorem szA_app : ∀ {a b : List D}, szA (a ++ b) = szA a + szA b
  | [], b => by simp [szA]
  | d :: a, b => by rw [List.cons_append, szA, szA, szA_app, Nat.add_assoc]
theorem szD_pos (d : D) : 1 ≤ szD d := by cases d <;> simp [szD]
theorem len_sz : ∀ a : List D, a.length ≤ szA a
  | [] => Nat.le_refl _
  | d :: a => by
    have := len_sz a
    have := szD_pos d
    rw [List.length_cons, szA]; omega
def prD (d : D) : D := .tuple [d, d]
def d_just : SM Fl := (seqS (asgS 2 (lstE (argsCons (tupE (argsCons (vr 0) (argsCons (vr 1) argsNil))) argsNil)))
      (seqS (forS (rngE rngF1 (argsCons (cst (.int 1000000)) argsNil)) (.one 3) (seqS (ifS (tstE (op2 eqD (opN lenF (argsCons (vr 2) argsNil)) (cst (.int 0)))) bkS nxS)
      (seqS (asgT (.tup [4, 5]) (popE 2))
      (ifS (tstE (op1 (isiF [.tuple]) (vr 5))) (seqS (ifS (orT (notT (tstE (op1 (isiF [.tuple]) (vr 4)))) (tstE (op2 neD (opN lenF (argsCons (vr 4) argsNil)) (opN lenF (argsCons (vr 5) argsNil))))) (retS (cst (.bool false))) nxS)
      (forS (rngE rngF1 (argsCons (opN lenF (argsCons (vr 5) argsNil)) argsNil)) (.one 6) (exprS (apE 2 (tupE (argsCons (op2 ixD (vr 4) (vr 6)) (argsCons (op2 ixD (vr 5) (vr 6)) argsNil))))))) (ifS (orT (tstE (op1 isNF (vr 5))) (orT (tstE (op2 isBD (vr 5) (cst (.bool true)))) (tstE (op2 isBD (vr 5) (cst (.bool false)))))) (ifS (orT (tstE (op2 neD (op1 isNF (vr 4)) (op1 isNF (vr 5)))) (orT (tstE (op2 neD (op2 isBD (vr 4) (cst (.bool true))) (op2 isBD (vr 5) (cst (.bool true))))) (tstE (op2 neD (op2 isBD (vr 4) (cst (.bool false))) (op2 isBD (vr 5) (cst (.bool false))))))) (retS (cst (.bool false))) nxS) (ifS (tstE (op1 (isiF [.int]) (vr 5))) (ifS (orT (tstE (op1 (isiF [.bool]) (vr 4))) (orT (notT (tstE (op1 (isiF [.int]) (vr 4)))) (tstE (op2 neD (vr 4) (vr 5))))) (retS (cst (.bool false))) nxS) (ifS (orT (notT (tstE (op1 (isiF [.str]) (vr 4)))) (tstE (op2 neD (vr 4) (vr 5)))) (retS (cst (.bool false))) nxS)))))))
      (retS (op2 eqD (opN lenF (argsCons (vr 2) argsNil)) (cst (.int 0))))))
def F_just : Fd := fdN 2 5 d_just
theorem neD_bb (a b : Bool) : neD (.bool a) (.bool b) = some (.val (.bool (!(a == b)))) := rfl
theorem neD_ss {x : Str} (h : shp (.str x) = true) : neD (.str x) (.str x) = some (.val (.bool false)) := by
  unfold neD gd vB
  rw [h]
  have : PyData.eqv (.str x) (.str x) = true := by
    show (x == x) = true
    simp
  rw [this]; rfl
theorem just_in {a : D} {l ds : List D} {o3 o6 : Option D} {Q : Fl → List Sl → Prop} {ex : Nat → Str → D → List Sl → Prop} (hz : l.length + ds.length < SZ)
    (q : ∀ o6, Q .nx [.fro a, .fro a, .own ((l ++ ds).map prD), opn o3, .fro (.tuple ds), .fro (.tuple ds), opn o6]) :
    Post Q ex (forL (.one 6) (exprS (apE 2 (tupE (argsCons (op2 ixD (vr 4) (vr 6)) (argsCons (op2 ixD (vr 5) (vr 6)) argsNil))))) (rngL 0 (ds.length : Int).toNat) [.fro a, .fro a, .own (l.map prD), opn o3, .fro (.tuple ds), .fro (.tuple ds), opn o6]) := by
  have hlr : (rngL 0 (ds.length : Int).toNat).length = ds.length := by rw [rngL_len]; omega
  refine for_nx (fun i g => ∃ o6, g = [.fro a, .fro a, .own ((l ++ ds.take i).map prD), opn o3, .fro (.tuple ds), .fro (.tuple ds), opn o6]) ⟨o6, by rw [List.take_zero, List.append_nil]⟩ ?_ ?_
  · rintro i d g hi ⟨o6, rfl⟩
    obtain ⟨rfl, hlt⟩ := rngL_at hi
    have hi2 : i < ds.length := by omega
    have hx : atI ds (0 + (i : Int)) = some ds[i] := by
      rw [atI_nat (by omega) (by omega), show (0 + (i : Int)).toNat = i by omega, List.getElem?_eq_getElem hi2]
    have hx' : atI ds (i : Int) = some ds[i] := by rw [← hx, Int.zero_add]
    have hl : ((l ++ ds.take i).map prD).length < SZ := by
      rw [List.length_map, List.length_append, List.length_take]; omega
    have h2 : 2 ≤ SZ := by decide
    simp_arith [hx', hl, h2]
    refine ⟨some (.int i), ?_⟩
    have e : ds.take (i + 1) = ds.take i ++ [ds[i]] := by rw [List.take_append_getElem]
    rw [e, ← List.append_assoc, List.map_append (l₂ := [ds[i]])]
    rfl
  · rintro g ⟨o6, rfl⟩
    rw [hlr, List.take_length]
    exact q o6

theorem nx_drop {o : Option Out} : True := trivial
theorem just_ok {a : D} (ha : plB a = true) (hs : szD a ≤ 999999) : F_just [.fro a, .fro a] = .ok (.fro (.bool true)) none := by
  refine fd_post (R := fun r => r = .ok (.fro (.bool true)) none) rfl ?_
  have hr : rOk 1000000 = true := rOk_small (by decide) (by decide)
  have hlr : (rngL 0 (1000000 : Int).toNat).length = 1000000 := rngL_len _ _
  have h2 : 2 ≤ SZ := by decide
  have h1 : 1 ≤ SZ := by decide
  simp_arith [d_just, hr, h2, h1]
  refine for_br (fun i g => ∃ ts o3 o4 o5 o6, g = [.fro a, .fro a, .own (ts.map prD), opn o3, opn o4, opn o5, opn o6] ∧ plA ts = true ∧ szA ts + i ≤ 999999)
    (fun g => ∃ o3 o4 o5 o6, g = [.fro a, .fro a, .own [], opn o3, opn o4, opn o5, opn o6]) (fun _ _ => False) ⟨[a], none, none, none, none, rfl, by simp [plA, ha], by simp [szA]; exact hs⟩ ?_ ?_ ?_ fun _ _ h => h.elim
  · rintro i d g hi ⟨ts, o3, o4, o5, o6, rfl, hp, hz⟩
    obtain ⟨rfl, hlt⟩ := rngL_at hi
    rcases List.eq_nil_or_concat ts with rfl | ⟨l, x, rfl⟩
    · have h0 : decide (((0 : Nat) : Int) = 0) = true := rfl
      simp_arith [List.map_nil, h0]
      exact ⟨some _, o4, o5, o6, rfl⟩
    · rw [List.concat_eq_append] at hp hz ⊢
      rw [List.map_append, List.map_cons, List.map_nil]
      rw [plA_app, Bool.and_eq_true] at hp
      rw [szA_app] at hz
      have hn : decide (((l.map prD ++ [PyData.tuple [x, x]]).length : Int) = 0) = false := decide_eq_false (by simp; omega)
      have hll := len_sz l
      have hsz : SZ = 16777216 := rfl
      have hpl := hp.1
      cases x with
      | none =>
        simp_arith [prD, hn, neD_bb, beq_self_eq_true]
        exact ⟨l, some _, some _, some _, o6, rfl, hpl, by simp [szA, szD] at hz; omega⟩
      | bool b =>
        cases b with
        | true =>
          simp_arith [prD, hn, neD_bb, beq_self_eq_true]
          exact ⟨l, some _, some _, some _, o6, rfl, hpl, by simp [szA, szD] at hz; omega⟩
        | false =>
          simp_arith [prD, hn, neD_bb, beq_self_eq_true]
          exact ⟨l, some _, some _, some _, o6, rfl, hpl, by simp [szA, szD] at hz; omega⟩
      | int n =>
        simp_arith [prD, hn]
        exact ⟨l, some _, some _, some _, o6, rfl, hpl, by simp [szA, szD] at hz; omega⟩
      | str z =>
        have hz2 : shp (.str z) = true := by have := hp.2; simpa [plA, plB] using this
        simp_arith [prD, hn, neD_ss hz2]
        exact ⟨l, some _, some _, some _, o6, rfl, hpl, by simp [szA, szD] at hz; omega⟩
      | tuple ds =>
        have hds := len_sz ds
        have hz3 : szA l + (1 + szA ds) + i ≤ 999999 := by simpa [szA, szD] using hz
        have hpd : plA ds = true := by have := hp.2; simpa [plA, plB] using this
        have hr2 : rOk (ds.length : Int) = true := rOk_small (by omega) (by omega)
        simp_arith [prD, hn, hr2]
        refine just_in (o3 := some _) (by omega) fun o6 => ?_
        exact ⟨l ++ ds, some _, some _, some _, o6, rfl, by rw [plA_app, hpl, hpd]; rfl, by rw [szA_app]; omega⟩
      | list ds => simp [plA, plB] at hp
      | dict ds => simp [plA, plB] at hp
  · rintro g ⟨ts, o3, o4, o5, o6, rfl, hp, hz⟩
    rw [hlr] at hz
    omega
  · rintro g ⟨o3, o4, o5, o6, rfl⟩
    have h0 : decide (((0 : Nat) : Int) = 0) = true := rfl
    simp_arith [h0]
    exact ⟨_, rfl, rfl⟩
end Mw
namespace Mw
open PySem PySem.Spec PyProof.Rows L2
/-! ## sorted(set(..)) of a list of ints, any number of them -/
section
variable {P : Program} {w : World} {A : Around} {E : Value → Shared → Prop} {s : Shared}
theorem setR_few {h : Heap} {a : Addr} {S : Int → Bool} {n : Nat} {L : List Int} (R : SetR w h a S n) (hL : ∀ k, S k = true → k ∈ L) : n ≤ L.length := by
  obtain ⟨o, es, ep, t, ho, hex, hd, g, nd, hm, hb, hf, hn, hr, hl⟩ := R
  rw [← hn, ← Array.length_toList, ← List.length_map keyOf]
  exact List.Nodup.length_le_of_subset nd fun k hk => hL k ((hm k).mpr hk)
theorem set_fill {I : Addr} {fp wr : List Addr} {G : Array GenState → Array GenState → Prop} {n : Nat} {Pv : Nat → Value → Prop} {St : Nat → Shared → Prop} {R : Result → Shared → Prop} (W : WalksS P w A.in1 I fp wr G n Pv St) (S : Addr) (hSf : S ∉ fp) (ns L : List Int) (hn : n = ns.length)
    (hL : ∀ k ∈ ns, k ∈ L) (hb : L.length + 1 < scanBound) (hval : ∀ i v, Pv i v → ∃ k t, ns[i]? = some k ∧ v = .int k t) : ∀ (k i : Nat) (s : Shared), n - i = k → i ≤ n → St i s → (∃ c, SetR w s.heap S (fun j => decide (j ∈ ns.take i)) c) → (∀ s' c, Moved (S :: wr) G s s' → SetR w s'.heap S (fun j => decide (j ∈ ns)) c → R (.ok (.ret .none)) s') →
      codeAny (model P w) A (.builtin "set.update.loop" ⟨[.ref S, .ref I], []⟩) R s := by
  have up : ∀ b ∈ wr, b ∈ S :: wr := fun b z => .tail _ z
  intro k
  induction k with
  | zero =>
    rintro i s e0 hi hst ⟨c, hS⟩ hR
    obtain rfl : i = n := by omega
    refine codeAny_builtin F.entry_set_update_loop (Around.under_plainId F.plain_set_update_loop _ ▸ ?_)
    refine (show wpAny _ A.in1 (pyNext (.ref I) >>= _) _ _ s from wpAny_bind (W.done s _ _ hst fun s' hm => ?_))
    rw [List.take_of_length_le (by omega)] at hS
    exact (show wpAny _ A.in1 (PySem.ret Value.none) _ _ s' from wpAny_pure (hR s' c (hm.mono up) (hS.at fun o e => hm.heap S o (fun z => hSf (W.sub _ z)) e)))
  | succ k ih =>
    rintro i s e0 hi hst ⟨c, hS⟩ hR
    have hlt : i < n := by omega
    refine codeAny_builtin F.entry_set_update_loop (Around.under_plainId F.plain_set_update_loop _ ▸ ?_)
    refine (show wpAny _ A.in1 (pyNext (.ref I) >>= _) _ _ s from wpAny_bind (W.item i s _ _ hlt hst fun v s' hP hst' hm => ?_))
    obtain ⟨z, t, hz, rfl⟩ := hval i v hP
    have hS' : SetR w s'.heap S (fun j => decide (j ∈ ns.take i)) c := hS.at fun o e => hm.heap S o (fun z => hSf (W.sub _ z)) e
    have room : c + 1 < scanBound := Nat.lt_of_le_of_lt (Nat.succ_le_succ (setR_few hS' fun k hk => hL k (List.mem_of_mem_take (of_decide_eq_true hk)))) hb
    refine (show wpAny _ A.in1 (holding [Value.int z t] (setAdd S (.int z t)) >>= _) _ _ s' from wpAny_bind (wpAny_holding ?_))
    unfold setAdd
    refine wpAny_holding (wpAny_bind ((intKind P w).pyHash (k := z) (intKind_is _ _ _ _) ?_))
    refine setR_add_hashed (s := { s' with toks := s'.toks + 1 }) hS' room fun h' hsb hS2 => ?_
    have hS3 : SetR w h' S (fun j => decide (j ∈ ns.take (i + 1))) (if decide (z ∈ ns.take i) = true then c else c + 1) := hS2.congr fun j => by
      rw [List.take_add_one, hz]; simp [List.mem_append]
    refine wpAny_pure ⟨plainId_quiet F.plain_set_update_loop _, ih (i + 1) _ (by omega) hlt (W.frame _ s' _ _ hst' (Nat.le_succ _) fun b hb o e => (hsb.2 b fun z : b = S => hSf (z ▸ hb)).trans e) ⟨_, hS3⟩ fun s'' c2 hm'' hS'' => hR s'' c2 (Moved.trans W.gtrans ((hm.mono up).then_heap (Nat.le_succ _) fun b o hb e => (hsb.2 b fun z : b = S => hb (z ▸ List.mem_cons_self)).trans e) hm'') hS''⟩
abbrev nS (w : World) : Obj := { cls := .type "set", dict := none, data := .set #[] 0 (.fresh 0 0 (!w.params.followText "set-order")) }
abbrev lI (l : Addr) : Obj := { cls := .type "list_iterator", data := .fields #[.ref l, .int 0 0] }
theorem call_setLI {l : Addr} {items : Array Value} (ns : List Int) {Q : Value → Shared → Prop} (hh : A.handled = none) (hl : s.heap.IsList l items) (hit : IntsAre items.toList ns) {L : List Int} (hL : ∀ k ∈ ns, k ∈ L) (hb : L.length + 1 < scanBound)
    (h : ∀ (h' : Heap) (tk c : Nat), SetR w h' s.heap.objs.size (fun j => decide (j ∈ ns)) c → (∀ b o, s.heap.get? b = some o → h'.get? b = some o) → Q (.ref s.heap.objs.size) { s with heap := h', toks := tk }) :
    wpAny (model P w) A (call (.type "set") [.ref l]) Q E s := by
  have hsz : items.size = ns.length := (Array.length_toList (xs := items)).symm.trans (IntsAre.length hit)
  obtain ⟨c, tl, hmro⟩ := F.called_set.mro
  have k1 := F.called_set.made
  have k2 := F.called_set.sub
  refine wpAny_call (codeAny_of_tree (show wpAny _ _ (callAny (.type "set") _) _ _ _ from ?_))
  refine wpAny_pure (And.intro (Code.quiet_builtin _ (by decide +kernel)) (codeAny_builtin F.entry_type_call ?_))
  rw [Around.under_plain (weight_type_call_type "set" [.ref l] []) (Eq.refl _)]
  have k3 := F.called_set.notType
  have k4 := F.called_set.canCreate
  have k5 := F.typeCall_set_1 (.ref l)
  repeat (any_goals (first | assumption | wp_step))
  refine codeAny_mono (code_set_led1 (.ref l) (E := E) (Q₁ := fun obj s₁ => obj = .ref s.heap.objs.size ∧ s₁ = { s with heap := s.heap.push (nS w) }) ⟨rfl, rfl⟩) fun r s₁ hr => ?_
  cases r with
  | error e => exact hr
  | ok fl =>
    cases fl with
    | ret obj =>
      obtain ⟨rfl, rfl⟩ := hr
      have hS : (s.heap.push (nS w)).get? s.heap.objs.size = some (nS w) := Heap.get?_push_size _ rfl
      have hT : Shared.TypeIs { s with heap := s.heap.push (nS w) } (.ref s.heap.objs.size) "set" := ⟨_, hS, rfl⟩
      have k6 := F.called_set.init.lookup
      have k7 := F.called_set.init.bind (.ref s.heap.objs.size)
      repeat (any_goals (first | assumption | wp_step))
      refine codeAny_mono (codeAny_call_builtin (R := wants (fun r s₂ => r = .none ∧ ∃ h' tk c, s₂ = { s with heap := h', toks := tk } ∧ SetR w h' s.heap.objs.size (fun j => decide (j ∈ ns)) c ∧ (∀ b o, s.heap.get? b = some o → h'.get? b = some o)) E) F.called_set.init.plain F.entry_set_init (check_set_init_1 hT ?_)) fun r₂ s₂ hr₂ => ?_
      · obtain ⟨⟨ocls, odict, odata, oslots⟩, hol, hcl, nl, hdl⟩ := hl
        simp only at hcl hdl
        subst hcl hdl
        have hol' := Heap.get?_push_of_some (nS w) hol
        have hsls := F.sub_list_set
        have hslf := F.sub_list_frozenset
        have k8 : (Value.type "list" == Value.type "dict") = false := rfl
        have hl1 : (s.heap.push (nS w)).IsList l items := ⟨_, hol', rfl, nl, rfl⟩
        unfold Builtin.«set.__init__» noKeywords Builtin.Frozenset.updateFrom
        generalize hPI : pyIter = PI
        wp_walk
        subst hPI
        refine wpAny_pyIter_list hl1 (wpAny_bind (wpAny_runValue ?_))
        have hlS : l < s.heap.objs.size := Heap.lt_size hol
        have h3 : A.in1.in1.in1.handled = none := by simp [hh]
        have hneI : l ≠ (s.heap.push (nS w)).objs.size := by rw [Heap.size_push]; exact Nat.ne_of_lt (Nat.lt_succ_of_lt hlS)
        have hSf : s.heap.objs.size ∉ [(s.heap.push (nS w)).objs.size, l] := by
          rw [Heap.size_push]
          intro z
          rcases List.mem_cons.mp z with z | z
          · omega
          · exact absurd (List.mem_singleton.mp z) (Nat.ne_of_gt hlS)
        have hval : ∀ (i : Nat) (v : Value), items[i]? = some v → ∃ k t, ns[i]? = some k ∧ v = .int k t := by
          intro i v hv
          have hi : i < ns.length := hsz ▸ (Array.getElem?_eq_some_iff.mp hv).1
          obtain ⟨t, e⟩ := PyProof.Rows.IntsAre.int_at hit i v (by rw [Array.getElem?_toList]; exact hv)
          exact ⟨ns[i], t, List.getElem?_eq_getElem hi, by rw [e, List.getD_eq_getElem?_getD, List.getElem?_eq_getElem hi]; rfl⟩
        refine set_fill ((Walks.list h3 _ l hneI items).toS) s.heap.objs.size hSf ns L hsz hL hb hval (items.size - 0) 0 _ (by omega) (by omega) ⟨⟨_, Heap.get?_push_size _ rfl, rfl, rfl⟩, hl1.push _⟩ ⟨0, setR_new_at (Heap.get?_push_of_some (lI l) hS)⟩ fun s' c' hm hS' => ?_
        obtain ⟨h', g2, d', tk', os'⟩ := s'
        obtain ⟨rfl, rfl, rfl⟩ : g2 = s.gens ∧ d' = s.drawn ∧ os' = s.os := ⟨hm.gens, hm.drawn, hm.os⟩
        show wpAny _ _ _ _ _ _
        refine wpAny_pure (show wpAny _ _ (PySem.ret Value.none) _ _ _ from ?_)
        refine wpAny_pure ⟨rfl, h', tk', c', rfl, hS', fun b o e => ?_⟩
        have b0 : b < s.heap.objs.size := Heap.lt_size e
        refine hm.heap b o (fun z => ?_) (Heap.get?_push_of_some _ (Heap.get?_push_of_some _ e))
        rcases List.mem_cons.mp z with z | z
        · exact absurd z (Nat.ne_of_lt b0)
        · have z := List.mem_singleton.mp z
          rw [Heap.size_push] at z
          exact absurd z (Nat.ne_of_lt (Nat.lt_succ_of_lt b0))
      · cases r₂ with
        | error e => exact hr₂
        | ok fl₂ =>
          cases fl₂ with
          | ret r =>
            obtain ⟨rfl, h', tk, c', rfl, hS', hk'⟩ := hr₂
            repeat (any_goals (first | assumption | wp_step))
            exact h _ _ _ hS' hk'
          | _ => exact False.elim hr₂
    | _ => exact False.elim hr
/-- the distinct ones, rising -/
theorem sortedSR {a : Addr} {S : Int → Bool} {n : Nat} {Q : Value → Shared → Prop} (R : SetR w s.heap a S n) (hh : A.handled = none) (hn : n ≤ sizeLine)
    (hQ : ∀ s' p (out : Array Value) (c : Nat) (ns : List Int), (∀ b o, s.heap.get? b = some o → s'.heap.get? b = some o) → s'.gens = s.gens → s'.os = s.os → s.heap.objs.size ≤ p →
      s'.heap.get? p = some (seqObj "list" out c) → IntsAre out.toList ns → ns.Pairwise (· < ·) → (∀ k, k ∈ ns ↔ S k = true) → ns.length = n → Q (.ref p) s') :
    wpAny (model P w) A (call (.builtin "sorted") [.ref a]) Q E s := by
  obtain ⟨o, es, ep, t, ho, hex, hd, g, nd, hm, hb, hf, hnn, hr, hl⟩ := R
  refine Calls.call_function_entry kind_sorted plain_sorted entry_sorted (args_sorted1 _) ?_
  unfold Builtin.«sorted»
  refine wpAny_bind (m := checkCount "sorted" 1 1 _) (wpAny_pure (wpAny_bind (collect_set (A := A.in1) hh ⟨o, ho, hex.1, hd⟩ hf hb hr hl fun s1 vs k1 hz g1 o1 pm => ?_)))
  have hvl : vs.length = n := by rw [pm.length_eq, List.length_map, Array.length_toList]; exact hnn
  have hI : IntsAre vs (vs.map SrtO.iv) := SrtO.ints_iv fun v hv => by
    obtain ⟨e, he, q⟩ := List.mem_map.mp (pm.mem_iff.mp hv)
    obtain ⟨k, tk, e1, _⟩ := g e he
    exact ⟨k, tk, q ▸ e1⟩
  have pk : (vs.map SrtO.iv).Perm (es.toList.map keyOf) := by
    have q := pm.map SrtO.iv
    rw [List.map_map] at q
    have e : es.toList.map (SrtO.iv ∘ (·.2)) = es.toList.map keyOf := List.map_congr_left fun x hx => by
      obtain ⟨k, tk, e1, e2⟩ := g x hx
      show SrtO.iv x.2 = keyOf x
      unfold keyOf
      rw [e1]; rfl
    rw [e] at q
    exact q
  refine wpAny_bind (wpAny_newList ?_ (by rw [hvl]; exact hn))
  have hoL : (s1.heap.push (seqObj "list" vs.toArray 0)).get? s1.heap.objs.size = some (seqObj "list" vs.toArray 0) := Heap.get?_push_size _ rfl
  refine wpAny_bind (wpAny_holding (wpAny_call_entry slot_list_sort ⟨_, hoL, rfl⟩ entry_list_sort (SrtO.list_sort_ord SrtO.swo_int hoL (by rw [hvl]; exact hn) (fun h2 => SrtO.ints_sortable hI h2) fun out h1 h2 => ⟨_, rfl, ?_⟩) (args_list_sort _)))
  obtain ⟨a1, a2, a3⟩ := SrtO.ints_out hI h1 h2
  obtain ⟨c, hc⟩ := sortedHeap_at (vs := vs) (out := out.toArray) hoL
  have pn := a2.trans pk
  refine wpAny_pure ⟨_, rfl, hQ _ s1.heap.objs.size out.toArray c _ (fun b u e => ?_) g1 o1 hz hc a1 (lt_of_le_nodup _ a3 (pn.nodup_iff.mpr nd)) (fun k => by rw [pn.mem_iff, ← hm k]) (by rw [pn.length_eq, List.length_map, Array.length_toList]; exact hnn)⟩
  have q := k1 b u e
  have hlt := Heap.lt_size q
  show (sortedHeap (s1.heap.push (seqObj "list" vs.toArray 0)) s1.heap.objs.size vs out.toArray).get? b = some u
  rw [sortedHeap_old (Nat.ne_of_lt hlt) (by rw [size_push']; exact Nat.lt_succ_of_lt hlt)]
  exact Heap.get?_push_of_some _ q
end
end Mw
namespace Mw
open PySem PySem.Spec PyProof.Rows L2
/-! ## the distinct ones of a list, rising -/
def insU (x : Int) : List Int → List Int
  | [] => [x]
  | y :: r => if x < y then x :: y :: r else if x = y then y :: r else y :: insU x r
def sdd : List Int → List Int
  | [] => []
  | x :: r => insU x (sdd r)
theorem insU_mem {x z : Int} : ∀ {l : List Int}, z ∈ insU x l ↔ z = x ∨ z ∈ l
  | [] => by simp [insU]
  | y :: r => by
    unfold insU
    split
    · simp
    · split
      · rename_i h; subst h; simp
      · rw [List.mem_cons, insU_mem, List.mem_cons]
        constructor
        · rintro (h | h | h)
          · exact .inr (.inl h)
          · exact .inl h
          · exact .inr (.inr h)
        · rintro (h | h | h)
          · exact .inr (.inl h)
          · exact .inl h
          · exact .inr (.inr h)
theorem sdd_mem {z : Int} : ∀ {l : List Int}, z ∈ sdd l ↔ z ∈ l
  | [] => Iff.rfl
  | x :: r => by rw [sdd, insU_mem, List.mem_cons, sdd_mem]
theorem insU_up {x : Int} : ∀ {l : List Int}, l.Pairwise (· < ·) → (insU x l).Pairwise (· < ·)
  | [], _ => by simp [insU]
  | y :: r, h => by
    obtain ⟨h1, h2⟩ := List.pairwise_cons.mp h
    unfold insU
    split
    · rename_i c
      refine List.pairwise_cons.mpr ⟨fun z hz => ?_, h⟩
      rcases List.mem_cons.mp hz with rfl | hz
      · exact c
      · have := h1 z hz; omega
    · split
      · exact h
      · rename_i c1 c2
        refine List.pairwise_cons.mpr ⟨fun z hz => ?_, insU_up h2⟩
        rcases insU_mem.mp hz with rfl | hz
        · omega
        · exact h1 z hz
theorem sdd_up : ∀ l : List Int, (sdd l).Pairwise (· < ·)
  | [] => .nil
  | x :: r => insU_up (sdd_up r)
theorem nodup_of_up {l : List Int} (h : l.Pairwise (· < ·)) : l.Nodup := h.imp fun h => Int.ne_of_lt h
theorem up_unique {a b : List Int} (ha : a.Pairwise (· < ·)) (hb : b.Pairwise (· < ·)) (h : ∀ k, k ∈ a ↔ k ∈ b) : a = b :=
  eq_sorted ((List.perm_ext_iff_of_nodup (nodup_of_up ha) (nodup_of_up hb)).mpr h) (ha.imp fun h => Int.le_of_lt h) (hb.imp fun h => Int.le_of_lt h)
section
variable {X : Cx} {P : Pa} {W : WX}
/-- sorted(set(xs)) -/
def rSS (K : PySem.W.Frag) : List V → Hp → VK → Prop := fun vs H Q => ∃ (a : Addr) (ns L : List Int), vs = [V.ref a] ∧ SqL K H a (ns.map V.int) ∧ (∀ k ∈ ns, k ∈ L) ∧ L.length ≤ 4000 ∧
  ∀ (ns' : List Int) (p : Addr), ns'.Pairwise (· < ·) → (∀ k : Int, k ∈ ns' ↔ k ∈ ns) → H p = none → Q (.ref p) (upd H p (.lst (ns'.map V.int)))
theorem pe_sset {e : Expr} {ta : TA} {p p2 q pos : Pos} (hc : X.calm = true) (hg : Gl X "sorted") (hm : X.mg "sorted" = none) (hg2 : Gl X "set") (hm2 : X.mg "set" = none) (ha : PA X [e] ta)
    (na : starEach [e] X.env = [(false, eval e X.env)] := by rfl) : PE X (.Call (.Name "sorted" p) [.Call (.Name "set" p2) [e] [] q] [] pos) (fun σ H Q => ta σ H fun vs H1 => rSS X.K vs H1 Q) := by
  refine ⟨fun pins s σ H Q I h => ?_⟩
  refine Call_ (ld_blt I hg hm boot_sorted (PyProof.Rows.callWith_builtin1 (PyProof.Rows.args_cons ?_ rfl) rfl rfl))
  refine Call_ (ld_blt I hg2 hm2 boot_set (PyProof.Rows.callWith_type1 (thn (ha.run q pins s σ H _ I h) fun us s1 ⟨vs, H1, I1, r1, q1⟩ => ?_) na rfl))
  obtain ⟨a, ns, L, rfl, hq, hL, hb, q1⟩ := q1
  rw [Vals.ref1 r1]
  obtain ⟨its, rv, pl, hz⟩ := I1.list hq
  have hi := rv.ints
  have hb2 : L.length + 1 < scanBound := by unfold scanBound; omega
  have fin : ∀ (s2 : Shared) (a2 : Addr) (c : Nat), Inv X pins σ H1 s2 → SetR X.w s2.heap a2 (fun j => decide (j ∈ ns)) c → wpAny (model X.prog X.w) X.A (call (.builtin "sorted") [.ref a2]) (EP X pins σ Q) X.xe s2 := fun s2 a2 c I2 R => by
    have hcn : c ≤ 4000 := Nat.le_trans (setR_few R fun k hk => hL k (of_decide_eq_true hk)) hb
    refine sortedSR R (I2.ok.hd hc) (by rw [sizeLine_eq]; omega) fun s' p out c' ns' g g1 g2 hp hgt hi' hs hm' hl => ?_
    have hn : H1 p = none := I2.hok.fresh hp
    have hlen : (ns'.map V.int).length ≤ sizeLine := by rw [List.length_map, hl, sizeLine_eq]; omega
    have J : Inv X pins σ (upd H1 p (.lst (ns'.map V.int))) { s2 with heap := s'.heap, gens := s'.gens, drawn := s'.drawn, toks := s'.toks } :=
      I2.call (ch := []) (Un.laid g hp hn) (I2.hok.laid g hp ⟨hlen, out.toList, c', vals_of_ints hi', hgt⟩) (by rw [g1]; exact I2.bare) (fun _ z => nomatch z)
    have e : s' = { s2 with heap := s'.heap, gens := s'.gens, drawn := s'.drawn, toks := s'.toks } := by
      cases s'
      cases g2
      rfl
    rw [e]
    exact ⟨.ref p, _, J, rfl, q1 ns' p hs (fun k => (hm' k).trans decide_eq_true_iff) hn⟩
  exact call_setLI ns (I1.ok.hd hc) pl.isList (by simpa using hi) hL hb2 fun h' tk c R k => PyProof.Rows.args_nil (fin _ _ c (I1.kept fun b o e => k b o e) R)
def ssetF : List D → Option Out
  | [.list ds] => (intsOf ds).bind fun ns => if (sdd ns).length ≤ 4000 then some (.lstN ((sdd ns).map PyData.int)) else none
  | _ => none
theorem s_sset {K : PySem.W.Frag} : SoundN K (rSS K) ssetF := by
  intro H Z xs ds o Q s h e q
  unfold ssetF at e
  split at e
  · rename_i es
    cases e1 : intsOf es with
    | none => rw [e1] at e; cases e
    | some ns =>
      rw [e1] at e
      by_cases hl : (sdd ns).length ≤ 4000
      · have e : (if (sdd ns).length ≤ 4000 then some (Out.lstN ((sdd ns).map PyData.int)) else none) = some o := e
        rw [if_pos hl] at e
        cases e
        obtain ⟨a, rfl, h1⟩ := lints s h e1
        refine ⟨a, ns, sdd ns, rfl, h1, fun k hk => sdd_mem.mpr hk, hl, fun ns' p hs hm hn => ?_⟩
        have : ns' = sdd ns := up_unique hs (sdd_up ns) fun k => (hm k).trans sdd_mem.symm
        rw [this]
        exact q p _ hn (dpA_of_ints _)
      · have e : (if (sdd ns).length ≤ 4000 then some (Out.lstN ((sdd ns).map PyData.int)) else none) = some o := e
        rw [if_neg hl] at e
        cases e
  · cases e
theorem me_sset {e : Expr} {da : SM (List EV)} {p p2 q pos : Pos} (hK : X.K = P.K) (hc : X.calm = true) (hg : Gl X "sorted") (hm : X.mg "sorted" = none) (hg2 : Gl X "set") (hm2 : X.mg "set" = none) (ha : PA X [e] (TAo P W da))
    (na : starEach [e] X.env = [(false, eval e X.env)] := by rfl) : PE X (.Call (.Name "sorted" p) [.Call (.Name "set" p2) [e] [] q] [] pos) (TEo P W (opN ssetF da)) :=
  peW (pe_sset hc hg hm hg2 hm2 ha na) fun σ H Q ⟨c, g, Z, R, p⟩ =>
    TAo.on R p fun ys g2 ws H2 Z2 s2 R2 vy p2 => by
      rw [hK]
      exact appN_ok s_sset R2 vy p2 fun o q => out_fin R2 s2 q
end
end Mw
namespace Mw
open PySem PySem.Spec PyProof.Rows L2
/-! ## list(range(a, b)) -/
theorem intsAre_of : ∀ {vs : List Value} {ns : List Int}, vs.length = ns.length → (∀ i v, vs[i]? = some v → ∃ t, v = Value.int (ns.getD i 0) t) → IntsAre vs ns
  | [], [], _, _ => .nil
  | v :: vs, n :: ns, h, p => by
    obtain ⟨t, rfl⟩ := p 0 v rfl
    exact .cons n t (intsAre_of (by simpa using h) fun i u hu => by simpa using p (i + 1) u (by simpa using hu))
def upI (i : Int) (n : Nat) : List Int := (List.range n).map fun k : Nat => i + k
theorem upI_len (i : Int) (n : Nat) : (upI i n).length = n := by simp [upI]
section
variable {X : Cx} {P : Pa} {W : WX}
def rLR : List V → Hp → VK → Prop := fun vs H Q => ∃ i j : Int, vs = [.int i, .int j] ∧ -(2 ^ 62) ≤ i ∧ i < 2 ^ 62 ∧ -(2 ^ 62) ≤ j ∧ j < 2 ^ 62 ∧ j - i ≤ 1000000 ∧ ∀ p, H p = none → Q (.ref p) (upd H p (.lst ((upI i (j - i).toNat).map V.int)))
theorem pe_lrange {a b : Expr} {ta : TA} {p p2 q pos : Pos} (hc : X.calm = true) (hg : Gl X "list") (hm : X.mg "list" = none) (hg2 : Gl X "range") (hm2 : X.mg "range" = none) (ha : PA X [a, b] ta)
    (hs : starEach [a, b] X.env = [(false, eval a X.env), (false, eval b X.env)] := by rfl) (hs2 : starEach [b] X.env = [(false, eval b X.env)] := by rfl) : PE X (.Call (.Name "list" p) [.Call (.Name "range" p2) [a, b] [] q] [] pos) (fun σ H Q => ta σ H fun vs H1 => rLR vs H1 Q) := by
  refine ⟨fun pins s σ H Q I h => ?_⟩
  refine Call_ (ld_blt I hg hm boot_list (PyProof.Rows.callWith_type1 (PyProof.Rows.args_cons ?_ rfl) rfl rfl))
  refine Call_ (ld_blt I hg2 hm2 boot_range (PyProof.Rows.callWith_type1 (thn (ha.run q pins s σ H _ I h) fun us s1 ⟨vs, H1, I1, r1, q1⟩ => ?_) (by rw [hs, hs2]) (by rw [hs2]; rfl)))
  obtain ⟨i, j, rfl, b1, b2, b3, b4, b5, q1⟩ := q1
  cases r1 with
  | cons r rr =>
    cases rr with
    | cons r' rr =>
      cases rr
      obtain ⟨t, rfl⟩ := r
      obtain ⟨t', rfl⟩ := r'
      refine call_range_2 (PyProof.Rows.args_nil ?_)
      have I2 : Inv X pins σ H1 { s1 with heap := s1.heap.push { cls := .type "range", data := .fields #[.int i t, .int j t', .int 1 s1.toks] }, toks := s1.toks + 1 } := I1.kept fun b o e => Heap.get?_push_of_some _ e
      have en : Builtin.Range.rangeSize i j 1 = (((j - i).toNat : Nat) : Int) := by rw [rangeSize_one]; split <;> omega
      refine call_list_range (I2.ok.hd hc) (IsRange.new ..) (small_one b1 b2 b3 b4) en (by omega) fun h' tk acc c' k hp hi => ?_
      have hI : IntsAre acc.toList (upI i (j - i).toNat) := by
        refine intsAre_of (by rw [Array.length_toList, hi.1, upI_len]) fun m v hv => ?_
        have hlt : m < (j - i).toNat := by rw [← hi.1, ← Array.length_toList]; exact (List.getElem?_eq_some_iff.mp hv).1
        obtain ⟨t, e⟩ := hi.2 m v (by rw [← Array.getElem?_toList]; exact hv)
        refine ⟨t, e.trans ?_⟩
        unfold upI
        rw [List.getD_eq_getElem?_getD, List.getElem?_map, List.getElem?_range hlt, Int.mul_one]; rfl
      have hlen : ((upI i (j - i).toNat).map V.int).length ≤ sizeLine := by rw [List.length_map, upI_len, sizeLine_eq]; omega
      exact ⟨.ref _, upd H1 _ (.lst ((upI i (j - i).toNat).map V.int)), I2.laid k (Nat.le_refl _) ⟨hlen, acc.toList, c', vals_of_ints hI, hp⟩, rfl, q1 _ (I2.hok.fresh (Nat.le_refl _))⟩
def lrngF : List D → Option Out
  | [.int i, .int j] => gd (rOk i && rOk j && decide (j - i ≤ 1000000)) (some (.lstN (rngL i (j - i).toNat)))
  | _ => none
theorem rngL_up : ∀ (n : Nat) (i : Int), rngL i n = (upI i n).map PyData.int
  | 0, i => rfl
  | n + 1, i => by
    rw [rngL, rngL_up n (i + 1)]
    unfold upI
    rw [List.range_succ_eq_map, List.map_cons, List.map_map, List.map_cons, List.map_map, List.map_map]
    congr 1
    · simp
    · refine List.map_congr_left fun k _ => ?_
      simp only [Function.comp]
      congr 1
      omega
theorem s_lrng {K : PySem.W.Frag} : SoundN K rLR lrngF := by
  intro H Z xs ds o Q s h e q
  unfold lrngF at e
  split at e
  · rename_i i j
    obtain ⟨hb, e⟩ := gd_some e
    cases e
    rw [Bool.and_eq_true, Bool.and_eq_true] at hb
    obtain ⟨⟨h1, h2⟩, h3⟩ := hb
    have h1 := of_decide_eq_true h1
    have h2 := of_decide_eq_true h2
    have h3 := of_decide_eq_true h3
    cases h with
    | cons hx h =>
      cases h with
      | cons hy h =>
        cases h
        refine ⟨i, j, by rw [hx.int, hy.int], h1.1, h1.2, h2.1, h2.2, h3, fun p hn => ?_⟩
        rw [rngL_up] at q
        exact q p _ hn (dpA_of_ints _)
  · cases e
theorem me_lrng {a b : Expr} {da : SM (List EV)} {p p2 q pos : Pos} (hc : X.calm = true) (hg : Gl X "list") (hm : X.mg "list" = none) (hg2 : Gl X "range") (hm2 : X.mg "range" = none) (ha : PA X [a, b] (TAo P W da))
    (hs : starEach [a, b] X.env = [(false, eval a X.env), (false, eval b X.env)] := by rfl) (hs2 : starEach [b] X.env = [(false, eval b X.env)] := by rfl) : PE X (.Call (.Name "list" p) [.Call (.Name "range" p2) [a, b] [] q] [] pos) (TEo P W (opN lrngF da)) :=
  peW (pe_lrange hc hg hm hg2 hm2 ha hs hs2) fun σ H Q ⟨c, g, Z, R, p⟩ =>
    TAo.on R p fun ys g2 ws H2 Z2 s2 R2 vy p2 => appN_ok (s_lrng (K := P.K)) R2 vy p2 fun o q => out_fin R2 s2 q
end
end Mw
namespace Mw
open PySem PySem.Spec PyProof.Rows L2
/-! ## a list of lists [first, last] grown by its hours -/
def stepP (ps : List (Int × Int)) (n : Int) : List (Int × Int) := match ps.getLast? with
  | some p => if p.2 + 1 = n then ps.dropLast ++ [(p.1, n)] else ps ++ [(n, n)]
  | none => [(n, n)]
def leastP (ns : List Int) : List (Int × Int) := ns.foldl stepP []
def prL (p : Int × Int) : D := .list [.int p.1, .int p.2]
def plS : Sl → Bool
  | .un => true
  | .fro _ => true
  | _ => false
def g0S (g : List Sl) : List Sl := (g.set 1 Sl.un).set 2 Sl.un
def leastG (ds : List D) : SM Fl := fun g => match intsOf ds, g[1]? with
  | some ns, some (Sl.own []) => if 2 < g.length ∧ (g0S g).all plS = true ∧ ns.length ≤ 1000000 then .ok (.nx, (g0S g).set 1 (Sl.own ((leastP ns).map prL))) else .stuck
  | _, _ => .stuck
def leastS (it : SM (List D)) : SM Fl := bnd it leastG
/-! the statements that build it -/
def tL1 (K : PySem.W.Frag) : TE := tOp (rIxL K) (tVar 1) (tUn (rU fun i => .int (-i)) (tC (.int 1)))
def rLn (K : PySem.W.Frag) : List V → Hp → VK → Prop := fun xs H Q => ∃ x n, xs = [x] ∧ LenV K x H n ∧ Q (.int n) H
def tTstL (K : PySem.W.Frag) : TT := tAnd (tTest (tOp (rI0 fun i j => .bl (decide (j < i))) (tCB (rLn K) (tCons (tVar 1) tNil)) (tC (.int 0))))
  (tTest (tOp rEq (tOp (rI0 fun i j => .int (i + j)) (tOp (rIxL K) (tL1 K) (tC (.int 1))) (tC (.int 1))) (tVar 2)))
def tSetL (K : PySem.W.Frag) : TS := tAsg (tVar 2) (gSub (tL1 K) (tC (.int 1)) rSetL)
def tAppL (K : PySem.W.Frag) : TS := tDrop (tBM K "list" rAppend (tVar 1) (tCons (tLst (tCons (tVar 2) (tCons (tVar 2) tNil))) tNil))
def tBodyL (K : PySem.W.Frag) : TS := tSeq (tIfS (tTstL K) (tSeq (tSetL K) tNext) (tSeq (tAppL K) tNext)) tNext
section
variable {P : Pa} {c : Ctx} {g : List Sl} {σ : L2.St} {H Z : Hp} {a : Addr} {refs : List Addr} {ps : List (Int × Int)}
theorem noOwn (hg : g.all plS = true) (p : Addr) : NoOwn g σ p := fun j hj => by
  cases e : g[j]? with
  | none => rw [e] at hj; cases hj
  | some s =>
    rw [e] at hj
    have := List.all_eq_true.mp hg s (List.mem_of_getElem? e)
    cases s with
    | own ds => cases this
    | _ => cases hj
structure Lst (P : Pa) (c : Ctx) (g : List Sl) (σ : L2.St) (H Z : Hp) (a : Addr) (refs : List Addr) (ps : List (Int × Int)) : Prop where
  R : Rel P c g σ H Z
  ha : H a = some (.lst (refs.map V.ref))
  za : Z a = none
  ca : c.H0 a = none
  ln : refs.length = ps.length
  nd : refs.Nodup
  na : a ∉ refs
  at' : ∀ (i : Nat) (b : Addr) (p : Int × Int), refs[i]? = some b → ps[i]? = some p → H b = some (.lst [.int p.1, .int p.2])
  fz : ∀ b ∈ refs, Z b = none ∧ c.H0 b = none
  v1 : σ[1]? = some (some (.ref a))
  pl : g.all plS = true
  g2 : g[2]? = some .un
  g1 : g[1]? = some .un
theorem Lst.hb (L : Lst P c g σ H Z a refs ps) {b : Addr} (hb : b ∈ refs) : ∃ o, H b = some o := by
  obtain ⟨i, hi, rfl⟩ := List.getElem_of_mem hb
  have hi2 : i < ps.length := L.ln ▸ hi
  exact ⟨_, L.at' i _ ps[i] (List.getElem?_eq_getElem hi) (List.getElem?_eq_getElem hi2)⟩
theorem Lst.hour (L : Lst P c g σ H Z a refs ps) (v : V) : Lst P c g (σ.set 2 (some v)) H Z a refs ps := by
  have e : g.set 2 .un = g := by
    apply List.ext_getElem?
    intro i
    by_cases h : i = 2
    · subst h
      rw [L.g2, List.getElem?_set_self (by have := (List.getElem?_eq_some_iff.mp L.g2).1; exact this)]
    · rw [List.getElem?_set_ne (Ne.symm h)]
  have R := L.R.forget 2 (some v)
  rw [e] at R
  exact ⟨R, L.ha, L.za, L.ca, L.ln, L.nd, L.na, L.at', L.fz, by rw [List.getElem?_set_ne (by decide)]; exact L.v1, L.pl, L.g2, L.g1⟩
theorem Lst.app (L : Lst P c g σ H Z a refs ps) {p : Addr} {n : Int} (hp : H p = none) : Lst P c g σ (upd (upd H p (.lst [.int n, .int n])) a (.lst ((refs ++ [p]).map V.ref))) Z a (refs ++ [p]) (ps ++ [(n, n)]) := by
  have pa : p ≠ a := fun z => by rw [z, L.ha] at hp; cases hp
  have pr : p ∉ refs := fun z => by obtain ⟨o, e⟩ := L.hb z; rw [hp] at e; cases e
  have R1 := L.R.newH (o := .lst [.int n, .int n]) hp
  refine ⟨R1.updFree L.za L.ca (noOwn L.pl a), upd_same, L.za, L.ca, by rw [List.length_append, List.length_append, L.ln]; rfl, ?_, ?_, ?_, ?_, L.v1, L.pl, L.g2, L.g1⟩
  · rw [List.nodup_append]
    refine ⟨L.nd, by simp, ?_⟩
    intro x hx y hy
    rw [List.mem_singleton.mp hy]
    exact fun z => pr (z ▸ hx)
  · intro z
    rcases List.mem_append.mp z with z | z
    · exact L.na z
    · exact pa (List.mem_singleton.mp z).symm
  · intro i b q hb hq
    by_cases hi : i < refs.length
    · rw [List.getElem?_append_left hi] at hb
      rw [List.getElem?_append_left (by rw [← L.ln]; exact hi)] at hq
      have hm := List.mem_of_getElem? hb
      have n1 : b ≠ a := fun z => L.na (z ▸ hm)
      have n2 : b ≠ p := fun z => pr (z ▸ hm)
      rw [upd_ne n1, upd_ne n2]
      exact L.at' i b q hb hq
    · rw [List.getElem?_append_right (by omega)] at hb
      rw [List.getElem?_append_right (by rw [← L.ln]; omega), ← L.ln] at hq
      have e0 : i - refs.length = 0 := by
        have := (List.getElem?_eq_some_iff.mp hb).1
        simp at this; omega
      rw [e0] at hb hq
      obtain rfl : p = b := by simpa using hb
      obtain rfl : (n, n) = q := by simpa using hq
      rw [upd_ne pa, upd_same]
  · intro b hb
    rcases List.mem_append.mp hb with hb | hb
    · exact L.fz b hb
    · rw [List.mem_singleton.mp hb]
      exact ⟨L.R.zn hp, L.R.dom hp⟩
theorem Lst.set (L : Lst P c g σ H Z a refs ps) {bs : List Addr} {b : Addr} {qs : List (Int × Int)} {x y n : Int} (er : refs = bs ++ [b]) (ep : ps = qs ++ [(x, y)]) : Lst P c g σ (upd H b (.lst [.int x, .int n])) Z a refs (qs ++ [(x, n)]) := by
  have hb : b ∈ refs := by rw [er]; simp
  have hl : bs.length = qs.length := by have := L.ln; rw [er, ep] at this; simpa using this
  have nb : b ∉ bs := fun z => by
    have := L.nd
    rw [er, List.nodup_append] at this
    exact this.2.2 b z b (by simp) rfl
  refine ⟨L.R.updFree (L.fz b hb).1 (L.fz b hb).2 (noOwn L.pl b), ?_, L.za, L.ca, by rw [L.ln, ep]; simp, L.nd, L.na, ?_, L.fz, L.v1, L.pl, L.g2, L.g1⟩
  · have n1 : a ≠ b := fun z => L.na (z ▸ hb)
    rw [upd_ne n1]; exact L.ha
  · intro i d q hd hq
    rw [er] at hd
    by_cases hi : i < bs.length
    · have hd2 := hd
      rw [List.getElem?_append_left hi] at hd
      rw [List.getElem?_append_left (by omega)] at hq
      have n1 : d ≠ b := fun z => nb (z ▸ List.mem_of_getElem? hd)
      rw [upd_ne n1]
      exact L.at' i d q (by rw [er]; exact hd2) (by rw [ep, List.getElem?_append_left (by omega)]; exact hq)
    · rw [List.getElem?_append_right (by omega)] at hd
      rw [List.getElem?_append_right (by omega), ← hl] at hq
      have e0 : i - bs.length = 0 := by
        have := (List.getElem?_eq_some_iff.mp hd).1
        simp at this; omega
      rw [e0] at hd hq
      obtain rfl : b = d := by simpa using hd
      obtain rfl : (x, n) = q := by simpa using hq
      exact upd_same
theorem frzAll (hg : g.all plS = true) : ∀ (rs : List Addr) (Z : Hp), Rel P c g σ H Z → rs.Nodup → (∀ b ∈ rs, (∃ o, H b = some o) ∧ Z b = none ∧ c.H0 b = none) → ∃ Z', Same Z Z' ∧ Rel P c g σ H Z' ∧ (∀ b ∈ rs, Z' b = H b) ∧ ∀ b, b ∉ rs → Z' b = Z b
  | [], Z, R, _, _ => ⟨Z, Same.refl _, R, (fun _ h => nomatch h), fun _ _ => rfl⟩
  | r :: rs, Z, R, nd, h => by
    obtain ⟨n1, n2⟩ := List.nodup_cons.mp nd
    obtain ⟨⟨o, e⟩, hz, h0⟩ := h r (List.mem_cons_self ..)
    have R1 := R.frz e h0 hz (noOwn hg r)
    obtain ⟨Z', s, R', k1, k2⟩ := frzAll hg rs (upd Z r o) R1 n2 (fun b hb => by
      obtain ⟨x1, x2, x3⟩ := h b (List.mem_cons_of_mem _ hb)
      have n3 : b ≠ r := fun z => n1 (z ▸ hb)
      exact ⟨x1, by rw [upd_ne n3]; exact x2, x3⟩)
    refine ⟨Z', (same_new hz).trans s, R', fun b hb => ?_, fun b hb => ?_⟩
    · rcases List.mem_cons.mp hb with rfl | hb
      · rw [k2 b n1, upd_same, e]
      · exact k1 b hb
    · have n3 : b ≠ r := fun z => hb (z ▸ List.mem_cons_self)
      rw [k2 b (fun z => hb (List.mem_cons_of_mem _ z)), upd_ne n3]
theorem dqRefs {K : PySem.W.Frag} {Z : Hp} : ∀ {rs : List Addr} {qs : List (Int × Int)}, rs.length = qs.length → (∀ (i : Nat) (b : Addr) (p : Int × Int), rs[i]? = some b → qs[i]? = some p → Z b = some (.lst [.int p.1, .int p.2])) → DqAll K Z (rs.map V.ref) (qs.map prL)
  | [], [], _, _ => .nil
  | r :: rs, q :: qs, hl, h => .cons (.lst (h 0 r q rfl rfl) (.cons (.int _) (.cons (.int _) .nil))) (dqRefs (by simpa using hl) fun i b p hb hp => h (i + 1) b p (by simpa using hb) (by simpa using hp))
theorem Lst.fin (L : Lst P c g σ H Z a refs ps) : ∃ Z', Same Z Z' ∧ Rel P c (g.set 1 (.own (ps.map prL))) σ H Z' := by
  obtain ⟨Z', s, R', k1, k2⟩ := frzAll L.pl refs Z L.R L.nd (fun b hb => ⟨L.hb hb, L.fz b hb⟩)
  refine ⟨Z', s, ?_⟩
  have hl1 : 1 < σ.length := (List.getElem?_eq_some_iff.mp L.v1).1
  have es : σ.set 1 (some (.ref a)) = σ := by
    apply List.ext_getElem?
    intro i
    by_cases h : i = 1
    · subst h
      rw [L.v1, List.getElem?_set_self hl1]
    · rw [List.getElem?_set_ne (Ne.symm h)]
  have ok : SlOk P c H Z' (some (some (.ref a))) (.own (ps.map prL)) := ⟨a, _, rfl, L.ha, (k2 a L.na).trans L.za, L.ca, dqRefs L.ln fun i b p hb hp => (k1 b (List.mem_of_getElem? hb)).trans (L.at' i b p hb hp)⟩
  have R2 := R'.put (i := 1) (v := some (.ref a)) hl1 ok (fun _ b e j _ hj => noOwn L.pl b j hj) (fun _ z => nomatch z)
  rw [es] at R2
  exact R2
end
end Mw
namespace Mw
open PySem PySem.Spec PyProof.Rows L2
theorem atI_end {α : Type} (l : List α) (x : α) : atI (l ++ [x]) (-1) = some x := by
  unfold atI ixN
  rw [if_neg (by decide), if_pos (by rw [List.length_append]; simp; omega), List.length_append]
  have e : ((-1 : Int) + ((l.length + [x].length : Nat) : Int)).toNat = l.length := by simp; omega
  show (l ++ [x])[((-1 : Int) + ((l.length + [x].length : Nat) : Int)).toNat]? = _
  rw [e, List.getElem?_append_right (Nat.le_refl _), Nat.sub_self]; rfl
theorem intsOf_eq : ∀ {ds : List D} {ns : List Int}, intsOf ds = some ns → ds = ns.map PyData.int
  | [], ns, h => by cases h; rfl
  | .int i :: r, ns, h => by
    cases e : intsOf r with
    | none => rw [intsOf, e] at h; cases h
    | some ms => rw [intsOf, e] at h; cases h; rw [intsOf_eq e]; rfl
  | .none :: r, ns, h => by cases h
  | .bool _ :: r, ns, h => by cases h
  | .str _ :: r, ns, h => by cases h
  | .list _ :: r, ns, h => by cases h
  | .tuple _ :: r, ns, h => by cases h
  | .dict _ :: r, ns, h => by cases h
section
variable {X : Cx} {P : Pa} {W : WX} {c : Ctx} {g : List Sl} {σ : L2.St} {H Z : Hp} {a : Addr} {refs : List Addr} {ps : List (Int × Int)}
theorem stepP_app {qs : List (Int × Int)} {x y n : Int} : stepP (qs ++ [(x, y)]) n = if y + 1 = n then qs ++ [(x, n)] else qs ++ [(x, y)] ++ [(n, n)] := by
  unfold stepP
  rw [List.getLast?_concat, List.dropLast_concat]
theorem body_ok {n : Int} {D : Ends} (L : Lst P c g σ H Z a refs ps) (v2 : σ[2]? = some (some (.int n))) (hl : refs.length < sizeLine) (hD : ∀ H' refs', refs'.length ≤ refs.length + 1 → Lst P c g σ H' Z a refs' (stepP ps n) → D.nx σ H') : tBodyL P.K D σ H := by
  have B : stepP ps n = ps ++ [(n, n)] → ∀ D' : Ends, D'.nx = D.nx → tAppL P.K D' σ H := fun es D' e => by
    refine ⟨.ref a, L.v1, .inl ⟨rfl, _, SqL.of L.ha⟩, .int n, v2, .int n, v2, by rw [sizeLine_eq]; exact (by decide : 2 ≤ 16777216), fun p hp => ?_⟩
    have pa : a ≠ p := fun z => by rw [← z, L.ha] at hp; cases hp
    refine ⟨a, refs.map V.ref, .ref p, rfl, rfl, by rw [upd_ne pa]; exact L.ha, by rw [List.length_map]; exact hl, ?_⟩
    rw [e]
    have L' := L.app (n := n) hp
    rw [List.map_append] at L'
    have L2 : Lst P c g σ (upd (upd H p (.lst [.int n, .int n])) a (.lst (refs.map V.ref ++ [.ref p]))) Z a (refs ++ [p]) (stepP ps n) := by rw [es]; exact L'
    exact hD _ _ (by simp) L2
  refine ⟨_, L.v1, _, refs.length, rfl, .inl ⟨_, SqL.of L.ha, by simp⟩, _, _, rfl, rfl, _, rfl, ?_⟩
  rcases List.eq_nil_or_concat refs with hr | ⟨bs, b, hr⟩
  · have hps : ps = [] := by have := L.ln; rw [hr] at this; exact List.length_eq_zero_iff.mp this.symm
    have hd : decide ((0 : Int) < (refs.length : Int)) = false := by rw [hr]; rfl
    rw [hd]
    exact B (by rw [hps]; rfl) _ rfl
  · rw [List.concat_eq_append] at hr
    obtain ⟨qs, ⟨x, y⟩, hp⟩ : ∃ qs q, ps = qs ++ [q] := by
      rcases List.eq_nil_or_concat ps with e | ⟨qs, q, e⟩
      · have := L.ln; rw [hr, e] at this; simp at this
      · exact ⟨qs, q, by rw [e, List.concat_eq_append]⟩
    have hd : decide ((0 : Int) < (refs.length : Int)) = true := decide_eq_true (by rw [hr]; simp)
    have hlb : bs.length = qs.length := by have := L.ln; rw [hr, hp] at this; simpa using this
    have hat : atI (refs.map V.ref) (-1) = some (.ref b) := by rw [hr, List.map_append]; exact atI_end _ _
    have hb : H b = some (.lst [.int x, .int y]) := L.at' bs.length b (x, y) (by rw [hr]; simp) (by rw [hp, hlb]; simp)
    rw [hd]
    refine ⟨.ref a, L.v1, 1, rfl, a, refs.map V.ref, -1, .ref b, rfl, rfl, SqL.of L.ha, hat, b, _, 1, .int y, rfl, rfl, SqL.of hb, rfl, y, 1, rfl, rfl, .int n, v2, rfl, _, rfl, ?_⟩
    by_cases hy : y + 1 = n
    · have e : decide (V.int (y + 1) = V.int n) = true := decide_eq_true (by rw [hy])
      rw [e]
      refine ⟨.int n, v2, .ref a, L.v1, 1, rfl, a, refs.map V.ref, -1, .ref b, rfl, rfl, SqL.of L.ha, hat, b, _, 1, 1, rfl, rfl, hb, rfl, ?_⟩
      have L' := L.set (n := n) hr hp
      have L2 : Lst P c g σ (upd H b (.lst [.int x, .int n])) Z a refs (stepP ps n) := by rw [hp, stepP_app, if_pos hy]; exact L'
      exact hD _ _ (by omega) L2
    · have e : decide (V.int (y + 1) = V.int n) = false := decide_eq_false fun z => hy (V.int.inj z)
      rw [e]
      exact B (by rw [hp, stepP_app, if_neg hy]) _ rfl
theorem ms_least {it : SM (List D)} {tg iter : Expr} {body : List Stmt} {pos : Pos} (hp : PassesOwn (model X.prog X.w) X.A X.env X.xe) (hc : X.calm = true) (hi : PI X tg iter (TIo P W it)) (hg : PG X tg (gName 2)) (hb : PSs X body (tBodyL P.K))
    (hs : ∀ x, foldedSetIterable iter X.env x = pure x := by intro _; rfl) : PS X (.For tg iter body [] pos) (TSo P W (leastS it)) := by
  refine psW (ps_for hp hc hi hg hb hs) fun Dd σ H ⟨c, g, Z, R, p⟩ => ?_
  refine ⟨c, g, Z, R, post_mono (post_bnd.mp p) (fun ds g1 q H1 Z1 J s1 R1 w => ?_) fun _ _ _ _ q => exS_K q⟩
  unfold leastG at q
  cases e1 : intsOf ds with
  | none => rw [e1] at q; exact q.elim
  | some ns =>
    cases e2 : g1[1]? with
    | none => rw [e1, e2] at q; exact q.elim
    | some s =>
      rw [e1, e2] at q
      match s, q with
      | .own [], q =>
        have q : Post (fun fl g' => FlP P c Dd Z g' fl) (exS P c W) (if 2 < g1.length ∧ (g0S g1).all plS = true ∧ ns.length ≤ 1000000 then .ok (.nx, (g0S g1).set 1 (Sl.own ((leastP ns).map prL))) else .stuck) := q
        by_cases hk : 2 < g1.length ∧ (g0S g1).all plS = true ∧ ns.length ≤ 1000000
        · rw [if_pos hk] at q
          have q : ∀ σ' H' Z', Same Z Z' → Rel P c ((g0S g1).set 1 (Sl.own ((leastP ns).map prL))) σ' H' Z' → Dd.nx σ' H' := q
          obtain ⟨k1, k2, k3⟩ := hk
          obtain rfl := intsOf_eq e1
          obtain ⟨a, vs, ea, h1, h2, h3, rr⟩ := R1.sl 1 _ e2
          cases rr
          have hlen : σ.length = g1.length := R1.len.symm
          have v1 : σ[1]? = some (some (.ref a)) := ea
          have L0 : Lst P c (g0S g1) σ H1 Z1 a [] [] := ⟨(R1.un 1).un 2, h1, h2, h3, rfl, .nil, (fun z => nomatch z), (fun i b p z => by simp at z), (fun b z => nomatch z), v1, k2, by unfold g0S; rw [List.getElem?_set_self (by rw [List.length_set]; exact k1)], by unfold g0S; rw [List.getElem?_set_ne (by decide), List.getElem?_set_self (by omega)]⟩
          refine ⟨fun i m σ' H' => m = ns.length - i ∧ i ≤ ns.length ∧ ∃ Z' refs, Same Z1 Z' ∧ refs.length ≤ i ∧ Lst P c (g0S g1) σ' H' Z' a refs (leastP (ns.take i)), ⟨_, rfl, Nat.zero_le _, Z1, [], Same.refl _, Nat.le_refl _, L0⟩, ?_⟩
          rintro i m σ' H' ⟨rfl, hi2, Z', refs, s', hrl, L⟩
          have w' := w.mono s'
          by_cases hlt : i < ns.length
          · refine .inr ⟨w'.go i H' (by rw [List.length_map]; exact hlt) L.R.sub, fun σ2 H2 => i + 1 ≤ ns.length ∧ ∃ Z' refs, Same Z1 Z' ∧ refs.length ≤ i + 1 ∧ Lst P c (g0S g1) σ2 H2 Z' a refs (leastP (ns.take (i + 1))), fun σ2 H2 ⟨x1, x2⟩ => ⟨ns.length - (i + 1), by omega, rfl, x1, x2⟩, fun x H2 y => ?_⟩
            obtain ⟨d, ed, yd⟩ := w'.yld i H' x H2 (by rw [List.length_map]; exact hlt) L.R.sub y
            rw [List.getElem?_map, List.getElem?_eq_getElem hlt] at ed
            obtain rfl : PyData.int ns[i] = d := Option.some.inj ed
            rcases yd with ⟨rfl, r⟩ | ⟨T, v, w2, dv, dw, e3, e4, e5, e6, r1, r2⟩
            · obtain rfl : x = V.int ns[i] := by cases r; rfl
              have L1 := L.hour (.int ns[i])
              refine body_ok L1 (List.getElem?_set_self (by have := L.R.len; unfold g0S at this; rw [List.length_set, List.length_set] at this; omega)) (by rw [sizeLine_eq]; omega) fun H3 refs3 hr3 L3 => ?_
              have et : leastP (ns.take (i + 1)) = stepP (leastP (ns.take i)) ns[i] := by
                unfold leastP
                rw [← List.take_append_getElem hlt, List.foldl_append]; rfl
              exact ⟨hlt, Z', refs3, s', by omega, by rw [et]; exact L3⟩
            · cases e6
          · have e : i = ns.length := by omega
            subst e
            rw [List.take_length] at L
            obtain ⟨Z5, s5, R5⟩ := L.fin
            exact .inl ⟨by have := w'.stop H' L.R.sub; rwa [List.length_map] at this, q σ' H' Z5 (s1.trans (s'.trans s5)) R5⟩
        · rw [if_neg hk] at q; exact q.elim
      | .own (_ :: _), q => exact q.elim
      | .un, q => exact q.elim
      | .fro _, q => exact q.elim
      | .bor _, q => exact q.elim
      | .exc _ _ _, q => exact q.elim
      | .scr _, q => exact q.elim
end
end Mw
namespace Mw
open PySem L2
/-- name = [.. for .. in ..] -/
theorem ms_setLc {X : Cx} {P : Pa} {W : WX} {i : Nat} {y : Str} {py : Pos} {elt tg iter : Expr} {ifs : List Expr} {scope : Scope} {own : List (Str × Nat)} {pos spos : Pos} {it : SM (List D)} {t : Tg} {q : SM Bool} {el : SM EV} {tt : TT} (hc : X.calm = true) (hN : X.N.Nodup) (hy : X.N[i]? = some y) (hyl : X.env.scope.names.lookup y = some .local)
    (hsw : swapsWith (.ListComp elt [⟨tg, iter, ifs, 0⟩] scope pos) (some (.Name y py)) spos.line X.env = pure true) (hi : PI X tg iter (TIo P W it)) (ok : BlkOk X.N X.env.scope scope own)
    (hg : ∀ (s : Shared) (H : Hp) (C : Addr) (cl : List (Str × Addr)) (fp : List Addr), PG (X.blk s H scope (compEnvC scope cl C X.env) fp) tg (TGo P t)) (ht : ∀ (s : Shared) (H : Hp) (C : Addr) (cl : List (Str × Addr)) (fp : List Addr), PTs (X.blk s H scope (compEnvC scope cl C X.env) fp) ifs tt)
    (he : ∀ (s : Shared) (H : Hp) (C : Addr) (cl : List (Str × Addr)) (fp : List Addr), PE (X.blk s H scope (compEnvC scope cl C X.env) fp) elt (TEo P W0 el)) (htt : ∀ σ H Q, TTo P W0 q σ H Q → tt σ H Q) (hv : (own.map (·.2)).Nodup) (hs : ∀ i ∈ t.slots, i ∈ own.map (·.2))
    (hf : ∀ x, foldedSetIterable iter X.env x = pure x := by intro _; rfl) :
    PS X (.Assign [.Name y py] (.ListComp elt [⟨tg, iter, ifs, 0⟩] scope pos) spos) (TSo P W (asgS i (lcE (own.map (·.2)) it t q el))) :=
  ms_asg (ps_setLc hc hN hy hyl hsw hi ok hg ht he hf) (lc_w hv hs htt)
end Mw
namespace Mw
open PySem PySem.Spec PyProof.Rows L2
/-! ## sorted(xs) of a list of pairs of ints -/
def prQ (p : Int × Int) : D := .tuple [.int p.1, .int p.2]
def ltQ (p q : Int × Int) : Bool := SrtO.lexB p q
def insQ (p : Int × Int) : List (Int × Int) → List (Int × Int)
  | [] => [p]
  | q :: r => if ltQ q p = true then q :: insQ p r else p :: q :: r
def sortQ : List (Int × Int) → List (Int × Int)
  | [] => []
  | p :: r => insQ p (sortQ r)
def UpQ (l : List (Int × Int)) : Prop := l.Pairwise fun p q => ltQ q p = false
theorem insQ_perm (p : Int × Int) : ∀ r : List (Int × Int), (insQ p r).Perm (p :: r)
  | [] => .refl _
  | q :: r => by
    unfold insQ
    split
    · exact ((insQ_perm p r).cons q).trans (.swap p q r)
    · exact .refl _
theorem sortQ_perm : ∀ r : List (Int × Int), (sortQ r).Perm r
  | [] => .refl _
  | p :: r => (insQ_perm p _).trans ((sortQ_perm r).cons p)
theorem ltQ_no {p q : Int × Int} : ltQ p q = false ↔ ¬ (p.1 < q.1 ∨ (p.1 = q.1 ∧ p.2 < q.2)) := SrtO.lexB_no
theorem ltQ_yes {p q : Int × Int} : ltQ p q = true ↔ (p.1 < q.1 ∨ (p.1 = q.1 ∧ p.2 < q.2)) := SrtO.lexB_iff
theorem insQ_up {p : Int × Int} : ∀ {r : List (Int × Int)}, UpQ r → UpQ (insQ p r)
  | [], _ => by simp [UpQ, insQ]
  | q :: r, h => by
    obtain ⟨h1, h2⟩ := List.pairwise_cons.mp h
    unfold insQ
    split
    · rename_i c
      refine List.pairwise_cons.mpr ⟨fun z hz => ?_, insQ_up h2⟩
      rcases List.mem_cons.mp ((insQ_perm p r).mem_iff.mp hz) with rfl | hz
      · have a := ltQ_yes.mp c
        exact ltQ_no.mpr (by omega)
      · exact h1 z hz
    · rename_i c
      have c : ltQ q p = false := by cases e : ltQ q p with
        | true => exact absurd e c
        | false => rfl
      refine List.pairwise_cons.mpr ⟨fun z hz => ?_, h⟩
      rcases List.mem_cons.mp hz with rfl | hz
      · exact c
      · have a := ltQ_no.mp c
        have b := ltQ_no.mp (h1 z hz)
        exact ltQ_no.mpr (by omega)
theorem sortQ_up : ∀ r : List (Int × Int), UpQ (sortQ r)
  | [] => .nil
  | p :: r => insQ_up (sortQ_up r)
theorem eq_sortQ {a b : List (Int × Int)} (hp : a.Perm b) (ha : UpQ a) (hb : UpQ b) : a = b :=
  hp.eq_of_pairwise (fun x y _ _ h1 h2 => by
    have a := ltQ_no.mp h1
    have b := ltQ_no.mp h2
    exact Prod.ext (by omega) (by omega)) ha hb
section
variable {X : Cx} {P : Pa} {W : WX}
/-- the items at xs are the pairs ps -/
def AtQ (K : PySem.W.Frag) (H : Hp) (xs : List V) (ps : List (Int × Int)) : Prop := xs.length = ps.length ∧ ∀ e ∈ xs.zip ps, ∃ t, e.1 = V.ref t ∧ SqT K H t [.int e.2.1, .int e.2.2]
def rSQ (K : PySem.W.Frag) : List V → Hp → VK → Prop := fun vs H Q => ∃ (a : Addr) (xs : List V) (ps : List (Int × Int)), vs = [V.ref a] ∧ SqL K H a xs ∧ AtQ K H xs ps ∧
  ∀ ys qs p, (ys.zip qs).Perm (xs.zip ps) → ys.length = qs.length → UpQ qs → H p = none → Q (.ref p) (upd H p (.lst ys))
theorem pair_inj {pins : List (Addr × Obj)} {σ : L2.St} {H : Hp} {s : Shared} {a : Addr} {i j i' j' : Int} (I : Inv X pins σ H s) (h : SqT X.K H a [.int i, .int j]) (h' : SqT X.K H a [.int i', .int j']) : i = i' ∧ j = j' := by
  obtain ⟨its, r, ⟨o, e, hc, n, d⟩, _⟩ := I.tuple h
  obtain ⟨its', r', ⟨o', e', hc', n', d'⟩, _⟩ := I.tuple h'
  rw [e] at e'
  cases e'
  rw [d] at d'
  injection d' with d1 d2
  obtain ⟨u1, u2, rfl, ⟨t1, rfl⟩, ⟨t2, rfl⟩⟩ := vals2 r
  obtain ⟨w1, w2, rfl, ⟨t3, rfl⟩, ⟨t4, rfl⟩⟩ := vals2 r'
  have d3 := congrArg Array.toList d1
  simp at d3
  exact ⟨d3.1.1, d3.2.1⟩
theorem zip_fst {α β : Type} : ∀ {xs : List α} {ps : List β}, xs.length = ps.length → (xs.zip ps).map (·.1) = xs
  | [], [], _ => rfl
  | x :: xs, p :: ps, h => by
    rw [List.zip_cons_cons, List.map_cons, zip_fst (by simpa using h)]
theorem zip_snd {α β : Type} : ∀ {xs : List α} {ps : List β}, xs.length = ps.length → (xs.zip ps).map (·.2) = ps
  | [], [], _ => rfl
  | x :: xs, p :: ps, h => by
    rw [List.zip_cons_cons, List.map_cons, zip_snd (by simpa using h)]
theorem zip_k {xs : List V} {ps : List (Int × Int)} {k : V → Int × Int} (h : xs.length = ps.length) (hk : ∀ e ∈ xs.zip ps, k e.1 = e.2) : xs.zip ps = xs.map fun x => (x, k x) := by
  conv => rhs; rw [← zip_fst h, List.map_map]
  conv => lhs; rw [← List.map_id (xs.zip ps)]
  exact List.map_congr_left fun e he => by
    show e = (e.1, k e.1)
    rw [hk e he]
open Classical in
theorem cr_SQ : CallR X (.builtin "sorted") (rSQ X.K) := by
  intro pins s σ H vs us Q I r h
  obtain ⟨a, xs, ps, rfl, hs, ⟨hl, hx⟩, q⟩ := h
  obtain ⟨its, rv, pl, hz⟩ := I.list hs
  obtain ⟨u, rfl, ru⟩ := vals1 r
  obtain rfl : u = Value.ref a := ru
  obtain ⟨k, hk⟩ : ∃ k : V → Int × Int, ∀ e ∈ xs.zip ps, k e.1 = e.2 := by
    refine ⟨fun v => if w : ∃ p, (v, p) ∈ xs.zip ps then choose w else (0, 0), fun e he => ?_⟩
    have w : ∃ p, (e.1, p) ∈ xs.zip ps := ⟨e.2, he⟩
    show (if w : ∃ p, (e.1, p) ∈ xs.zip ps then choose w else (0, 0)) = e.2
    rw [dif_pos w]
    obtain ⟨t, e1, h1⟩ := hx _ he
    obtain ⟨t', e1', h1'⟩ := hx _ (choose_spec w)
    have e1' : e.1 = V.ref t' := e1'
    rw [e1] at e1'
    cases e1'
    obtain ⟨a1, a2⟩ := pair_inj I h1' h1
    exact Prod.ext a1 a2
  have hmem : ∀ x ∈ xs, ∃ t, x = V.ref t ∧ SqT X.K H t [.int (k x).1, .int (k x).2] := fun x hm => by
    rw [← zip_fst hl] at hm
    obtain ⟨e, he, rfl⟩ := List.mem_map.mp hm
    obtain ⟨t, e1, h1⟩ := hx e he
    exact ⟨t, e1, by rw [hk e he]; exact h1⟩
  obtain ⟨e1, e2⟩ := refs_back rv fun x m => by
    obtain ⟨t, e, _⟩ := hmem x m
    exact ⟨t, e⟩
  refine SrtO.sorted_pairsO (k := fun u => k (backV u)) pl.isList (by rw [← rv.length]; exact hz) (fun v hv => ?_) fun h' d out h1 h2 kp hd hn => ?_
  · obtain ⟨t, rfl⟩ := e2 v hv
    have hm : V.ref t ∈ xs := by rw [e1]; exact List.mem_map.mpr ⟨_, hv, rfl⟩
    obtain ⟨t', e, ht⟩ := hmem _ hm
    cases e
    obtain ⟨its2, r2, ⟨o, ho, hc, n, hd⟩, _⟩ := I.tuple ht
    obtain ⟨u1, u2, rfl, ⟨t1, rfl⟩, ⟨t2, rfl⟩⟩ := vals2 r2
    exact ⟨t, o, t1, t2, n, rfl, ho, hc, hd⟩
  · have h3 : ∀ u ∈ out, ∃ a, u = Value.ref a := fun u hu => e2 u (h2.perm.mem_iff.mp hu)
    obtain ⟨n, hn⟩ := hn
    have hp : (out.map backV).Perm xs := by rw [e1]; exact h2.perm.map backV
    have hq : (out.map backV).zip ((out.map backV).map k) = (out.map backV).map fun x => (x, k x) := by
      generalize out.map backV = l
      induction l with
      | nil => rfl
      | cons x l ih => rw [List.map_cons, List.zip_cons_cons, List.map_cons, ih]
    refine ⟨.ref d, upd H d (.lst (out.map backV)), I.laid (t' := s.toks) kp hd ⟨?_, out, n, vals_back h3, hn⟩, rfl, q _ ((out.map backV).map k) d ?_ (by simp) ?_ (I.hok.fresh hd)⟩
    · rw [hp.length_eq]; exact hz
    · rw [hq, zip_k hl hk]
      exact hp.map _
    · unfold UpQ
      rw [List.map_map, List.pairwise_map]
      exact h1
def pairsQ : List D → Option (List (Int × Int))
  | [] => some []
  | .tuple [.int i, .int j] :: r => (pairsQ r).map ((i, j) :: ·)
  | _ => none
theorem pairsQ_eq : ∀ {ds : List D} {ps : List (Int × Int)}, pairsQ ds = some ps → ds = ps.map prQ
  | [], ps, h => by cases h; rfl
  | d :: r, ps, h => by
    unfold pairsQ at h
    split at h
    · rename_i e; cases e
    · rename_i i j r' e
      injection e with e1 e2
      subst e1 e2
      cases e3 : pairsQ r with
      | none => rw [e3] at h; cases h
      | some qs => rw [e3] at h; cases h; rw [pairsQ_eq e3]; rfl
    · cases h
theorem pairsQ_i : ∀ ps : List (Int × Int), pairsQ (ps.map prQ) = some ps
  | [] => rfl
  | p :: ps => by
    show (pairsQ (ps.map prQ)).map ((p.1, p.2) :: ·) = _
    rw [pairsQ_i ps]; rfl
def sortPF : List D → Option Out
  | [.list ds] => (pairsQ ds).bind fun ps => some (.lstN ((sortQ ps).map prQ))
  | _ => none
theorem dq_pair {K : PySem.W.Frag} {Z : Hp} {v : V} {p : Int × Int} (h : Dq K Z v (prQ p)) : ∃ t, v = .ref t ∧ SqT K Z t [.int p.1, .int p.2] := by
  cases h with
  | tup hs ha =>
    cases ha with
    | cons h1 h2 =>
      cases h2 with
      | cons h2 h3 =>
        cases h1
        cases h2
        cases h3
        exact ⟨_, rfl, hs⟩
theorem dqA_zip {K : PySem.W.Frag} {Z : Hp} : ∀ {vs : List V} {ps : List (Int × Int)}, DqAll K Z vs (ps.map prQ) → vs.length = ps.length ∧ ∀ e ∈ vs.zip ps, Dq K Z e.1 (prQ e.2)
  | [], [], _ => ⟨rfl, fun _ h => nomatch h⟩
  | [], _ :: _, h => by cases h
  | _ :: _, [], h => by cases h
  | v :: vs, p :: ps, h => by
    cases h with
    | cons h1 h2 =>
      obtain ⟨e1, e2⟩ := dqA_zip h2
      refine ⟨by simp [e1], fun e he => ?_⟩
      rw [List.zip_cons_cons] at he
      rcases List.mem_cons.mp he with rfl | he
      · exact h1
      · exact e2 e he
theorem dqA_of_zip {K : PySem.W.Frag} {Z : Hp} : ∀ {vs : List V} {ps : List (Int × Int)}, vs.length = ps.length → (∀ e ∈ vs.zip ps, Dq K Z e.1 (prQ e.2)) → DqAll K Z vs (ps.map prQ)
  | [], [], _, _ => .nil
  | [], _ :: _, h, _ => by simp at h
  | _ :: _, [], h, _ => by simp at h
  | v :: vs, p :: ps, h, k => by
    rw [List.zip_cons_cons] at k
    exact .cons (k (v, p) (List.mem_cons_self ..)) (dqA_of_zip (by simpa using h) fun e he => k e (List.mem_cons_of_mem _ he))
theorem s_SQ {K : PySem.W.Frag} : SoundN K (rSQ K) sortPF := by
  intro H Z xs ds o Q s h e q
  unfold sortPF at e
  split at e
  · rename_i es
    cases e1 : pairsQ es with
    | none => rw [e1] at e; cases e
    | some ps =>
      rw [e1] at e; cases e
      obtain ⟨v, rfl, r⟩ := one_inv h
      obtain ⟨a, vs, rfl, h1, r1⟩ := r.lst s
      rw [pairsQ_eq e1] at r1
      obtain ⟨hl, hz⟩ := dqA_zip r1
      refine ⟨a, vs, ps, rfl, SqL.of h1, ⟨hl, fun e he => ?_⟩, fun ys qs p hp hlq hu hn => ?_⟩
      · obtain ⟨t, e2, h2⟩ := dq_pair (hz e he)
        exact ⟨t, e2, seqT s h2⟩
      · have e3 : qs = sortQ ps := by
          refine eq_sortQ ?_ hu (sortQ_up ps)
          have h3 := hp.map (·.2)
          rw [zip_snd hlq, zip_snd hl] at h3
          exact h3.trans (sortQ_perm ps).symm
        rw [← e3] at q
        exact q p ys hn (dqA_of_zip hlq fun e he => hz e (hp.mem_iff.mp he))
  · cases e
/-- sorted of ints or of pairs of ints -/
def rSorA (K : PySem.W.Frag) : List V → Hp → VK → Prop := fun vs H Q => rSortedI K vs H Q ∨ rSQ K vs H Q
theorem c_sorA : CallR X (.builtin "sorted") (rSorA X.K) := CallR.or cr_sortedI cr_SQ
def sortA : List D → Option Out := fun xs => (sortedF xs).orElse fun _ => sortPF xs
theorem s_sorA {K : PySem.W.Frag} : SoundN K (rSorA K) sortA := by
  intro H Z xs ds o Q s h e q
  unfold sortA at e
  cases e1 : sortedF ds with
  | some o' =>
    rw [e1] at e
    cases e
    exact .inl (s_sorted H Z xs ds _ Q s h e1 q)
  | none =>
    rw [e1] at e
    exact .inr (s_SQ H Z xs ds o Q s h e q)
end
end Mw
namespace Mw
open PySem PySem.Spec PyProof.Rows L2
/-! ## enumerate(x), x a list or a tuple -/
abbrev eO (it : Addr) : Obj := { cls := .type "enumerate", data := .fields #[.none, .bool false, .ref it, rawInt 0, .none, .none] }
abbrev tI (t : Addr) : Obj := { cls := .type "tuple_iterator", data := .fields #[.ref t, .int 0 0] }
theorem meets_enum1 {v : Value} {o : Obj} {H : Heap → Prop} (B : Begins v o H) :
    Meets (Builtin.«enumerate.__new__» ⟨[.type "enumerate", v], []⟩) (fun _ R s => H s.heap ∧ R (.ok (.ret (.ref (s.heap.push o).objs.size))) { s with heap := (s.heap.push o).push (eO s.heap.objs.size) }) :=
  .of_wp fun prog w A R s ⟨h1, h⟩ => by
    obtain ⟨hp, gg, dd, tk, os⟩ := s
    have hsub := sub_enumerate
    have q1 : ∀ {A' : Around} {E Q : Value → Shared → Prop}, Q (.ref hp.objs.size) ⟨hp.push o, gg, dd, tk, os⟩ → wpAny (model prog w) A' (pyIter v) Q E ⟨hp, gg, dd, tk, os⟩ := fun q => B.iter prog w _ _ ⟨hp, gg, dd, tk, os⟩ _ h1 q
    wp_walk using q1
    refine wpAny_stack_any fun st => wpAny_pure ?_
    split
    · rename_i c _ _ _ _ _
      cases (c == Value.type "enumerate") <;> (wp_walk using q1; exact ⟨_, rfl, h⟩)
    · wp_walk using q1
      exact ⟨_, rfl, h⟩
section
variable {P : Program} {w : World} {A : Around} {E : Value → Shared → Prop} {s : Shared}
theorem call_enumT {t : Addr} {items : Array Value} {Q : Value → Shared → Prop} (hT : s.heap.IsTuple t items)
    (h : ∀ h', IsEnum h' (s.heap.objs.size + 1) s.heap.objs.size 0 .none → h'.IsTupleIter s.heap.objs.size t 0 → (∀ b o, s.heap.get? b = some o → h'.get? b = some o) → Q (.ref (s.heap.objs.size + 1)) { s with heap := h' }) :
    wpAny (model P w) A (call (.type "enumerate") [.ref t]) Q E s := by
  refine callType_new F.called_enumerate (by decide) (F.typeCall_enumerate_1 _) (F.newCall_enumerate_1 _) (fun obj => F.args_object_init_2 obj _) F.entry_enumerate_new (meets_enum1 (begins_tuple t items)) ⟨hT, ?_⟩
  have hz : (s.heap.push (tI t)).objs.size = s.heap.objs.size + 1 := Heap.size_push ..
  show _ ∧ _
  rw [hz]
  have he : ((s.heap.push (tI t)).push (eO s.heap.objs.size)).get? (s.heap.objs.size + 1) = some (eO s.heap.objs.size) := by
    have := Heap.get?_push_size (s.heap.push (tI t)) (o := eO s.heap.objs.size) rfl
    rwa [hz] at this
  exact ⟨⟨_, he, rfl⟩, h _ he ⟨_, Heap.get?_push_of_some _ (Heap.get?_push_size _ rfl), rfl, rfl⟩ fun b o x => Heap.get?_push_of_some _ (Heap.get?_push_of_some _ x)⟩
end
/-- the tuple at a, each item in a new pair -/
def IteT (K : PySem.W.Frag) (a : Addr) : It :=
  ⟨fun i H => ∃ (xs : List V) (x : V), SqT K H a xs ∧ xs[i]? = some x, fun i H v H' => ∃ T x, v = .ref T ∧ H T = none ∧ H' = upd H T (.tup [.int (i : Nat), x]) ∧ ∀ xs, SqT K H a xs → xs[i]? = some x, fun i H => ∃ xs : List V, SqT K H a xs ∧ xs.length = i⟩
theorem turn_enumT {P : Program} {w : World} {K : PySem.W.Frag} {elts : List Expr} {kk : Nat} {tpos : Pos} (a e it : Addr) :
    Turn P w K (.Tuple elts kk tpos) (IteT K a) [e, it] e (fun i h => (∃ old, IsEnum h e it ((i : Nat) : Int) old) ∧ h.IsTupleIter it a i ∧ e ≠ it) where
  mem := by simp
  obj := fun i h st b hb => by
    obtain ⟨⟨old, he⟩, ⟨o, ho, hc, hd⟩, _⟩ := st
    rcases List.mem_cons.mp hb with rfl | z
    · exact ⟨_, he, fun v q => nomatch q⟩
    · rw [List.mem_singleton.mp z]; exact ⟨o, ho, fun v q => by rw [hd] at q; cases q⟩
  keep := fun i h h' ⟨⟨old, he⟩, hi, hne⟩ k => ⟨⟨old, k e (by simp) _ he⟩, hi.at fun o q => k it (by simp) o q, hne⟩
  item := by
    rintro X rfl rfl rfl hc i pins s σ H E I hf ⟨⟨old, he⟩, hit, hne⟩ ⟨xs, x, hq, hx⟩
    obtain ⟨its, rv, p, hz⟩ := I.tuple hq
    obtain ⟨u, hu, ru⟩ := rv.get hx
    have hel : e < s.heap.objs.size := Heap.lt_size he
    have hil : it < s.heap.objs.size := by obtain ⟨_, q, _⟩ := hit; exact Heap.lt_size q
    have hai : a ≠ it := by
      rintro rfl
      obtain ⟨o, ho, hcl, _⟩ := p
      obtain ⟨o', ho', hcl', _⟩ := hit
      rw [ho] at ho'
      cases ho'
      rw [hcl] at hcl'
      exact absurd (Value.type.inj hcl') (by decide)
    have hea : e ∉ [it, a] := by
      intro z
      rcases List.mem_cons.mp z with z | z
      · exact hne z
      · have z := List.mem_singleton.mp z
        obtain ⟨o, ho, hcl, _⟩ := p
        rw [← z] at ho
        have he2 : s.heap.get? e = _ := he
        rw [ho] at he2
        cases he2
        exact absurd (Value.type.inj hcl) (by decide)
    have hlt : i < its.toArray.size := by rw [List.size_toArray, ← rv.length]; exact (List.getElem?_eq_some_iff.mp hx).1
    refine wpAny_pyNext_enum_itemD (Draws.tuple (by simpa using I.ok.hd hc) it a hai its.toArray) he ⟨hit, p⟩ hlt hne hea fun y h' tk hy ho hst hT hsz hk => ?_
    obtain rfl : y = u := by
      have hy : its.toArray[i]? = some y := hy
      rw [List.getElem?_toArray, hu] at hy
      exact (Option.some.inj hy).symm
    refine ⟨_, rfl, wpAny_letOwnedTupleGo_enum (s := { s with heap := h', toks := tk + 1 }) ho fun h'' he' sb => ?_⟩
    have hT2 := (sb.2 _ (Nat.ne_of_gt hel)).trans hT
    have new : ObjOk X.prog X.w (upd H s.heap.objs.size (.tup [.int (i : Nat), x])) h'' s.heap.objs.size (.tup [.int (i : Nat), x]) :=
      ⟨by show 2 ≤ sizeLine; decide, [.int i tk, y], .cons ⟨_, rfl⟩ (.cons ru .nil), ⟨_, hT2, rfl, _, rfl⟩⟩
    have I1 : Inv X pins σ (upd H s.heap.objs.size (.tup [.int (i : Nat), x])) { s with heap := h'', toks := tk + 1 } :=
      I.turnedNew (ch := [e, it]) (fun b ob hb q => (sb.2 b (fun z => hb (by simp [z]))).trans (hk b ob (fun z => hb (by simp [z])) (fun z => hb (by simp [z])) q)) hf (Nat.le_refl _) new
    refine ⟨.ref s.heap.objs.size, _, I1, rfl, ⟨_, x, rfl, I.hok.fresh (Nat.le_refl _), rfl, fun ys hy => by rw [I.tuple_inj hy hq]; exact hx⟩, ⟨⟨y, ?_⟩, hst.1.at fun o q => (sb.2 it (Ne.symm hne)).trans q, hne⟩, fun b hb => ?_⟩
    · rw [show ((i + 1 : Nat) : Int) = (i : Int) + 1 by omega]; exact he'
    · have hb' : b < s.heap.objs.size := by
        rcases List.mem_cons.mp hb with z | z
        · rw [z]; exact hel
        · rw [List.mem_singleton.mp z]; exact hil
      rw [upd_ne (Nat.ne_of_lt hb')]
      exact (hf b hb).1
  done := by
    rintro X rfl rfl rfl hc i pins s σ H E I hf ⟨⟨old, he⟩, hit, hne⟩ ⟨xs, hq, hx⟩
    obtain ⟨its, rv, p, hz⟩ := I.tuple hq
    obtain ⟨f0, f1, f2, f3, f4, f5⟩ := hf it (by simp)
    have hai : a ≠ it := by
      rintro rfl
      obtain ⟨o, ho, hcl, _⟩ := p
      obtain ⟨o', ho', hcl', _⟩ := hit
      rw [ho] at ho'
      cases ho'
      rw [hcl] at hcl'
      exact absurd (Value.type.inj hcl') (by decide)
    have hn : its.toArray.size = i := by rw [List.size_toArray, ← rv.length, hx]
    exact wpAny_pyNext_enum_endD (Draws.tuple (by simpa using I.ok.hd hc) it a hai its.toArray) he ⟨hn ▸ hit, p⟩ fun h' eb => ⟨rfl, I.turned (t' := s.toks) (fun b o hb q => eb b o hb q) f0 f1 f3 f4 f5⟩
  self := fun A i s Q E ⟨⟨_, he⟩, _⟩ h => wpAny_pyIter_enum he h
section
variable {X : Cx} {P : Pa} {W : WX}
def iEnumA (K : PySem.W.Frag) (ta : TA) : TI := fun σ H R => ta σ H fun vs H1 => ∃ (a : Addr) (xs : List V), vs = [V.ref a] ∧ ((SqL K H1 a xs ∧ R (Ite K a) H1) ∨ (SqT K H1 a xs ∧ R (IteT K a) H1))
theorem pi_enumA {e : Expr} {ta : TA} {p pos tpos : Pos} {elts : List Expr} {kk : Nat} (hg : Gl X "enumerate") (hm : X.mg "enumerate" = none) (ha : PA X [e] ta) (hs : starEach [e] X.env = [(false, eval e X.env)] := by rfl) : PI X (.Tuple elts kk tpos) (.Call (.Name "enumerate" p) [e] [] pos) (iEnumA X.K ta) := by
  refine ⟨fun pins s σ H R I h => ?_⟩
  refine Call_ (ld_blt I hg hm boot_enumerate (PyProof.Rows.callWith_type1 (thn (ha.run pos pins s σ H _ I h) fun us s1 ⟨vs, H1, I1, r1, q1⟩ => ?_) hs rfl))
  obtain ⟨a, xs, rfl, q1⟩ := q1
  rw [Vals.ref1 r1]
  have fp : ∀ b ∈ [s1.heap.objs.size + 1, s1.heap.objs.size], s1.heap.objs.size ≤ b := fun b hb => by
    rcases List.mem_cons.mp hb with rfl | z
    · exact Nat.le_succ _
    · rw [List.mem_singleton.mp z]; exact Nat.le_refl _
  rcases q1 with ⟨hq, q⟩ | ⟨hq, q⟩
  · obtain ⟨its, rv, pl, hz⟩ := I1.list hq
    refine call_enumerate_list pl.isList fun h' he hit hsz hk => wpAny_pyIter_enum he ?_
    exact ⟨s1.heap.objs.size + 1, [s1.heap.objs.size + 1, s1.heap.objs.size], _, _, H1, rfl, I1.kept (t' := s1.toks) hk, turn_enum a (s1.heap.objs.size + 1) s1.heap.objs.size, ⟨⟨.none, he⟩, hit, Nat.succ_ne_self _⟩, fun b hb => I1.fpOk (fp b hb) (I1.hok.fresh (fp b hb)), q⟩
  · obtain ⟨its, rv, pl, hz⟩ := I1.tuple hq
    refine call_enumT pl fun h' he hit hk => wpAny_pyIter_enum he ?_
    exact ⟨s1.heap.objs.size + 1, [s1.heap.objs.size + 1, s1.heap.objs.size], _, _, H1, rfl, I1.kept (t' := s1.toks) hk, turn_enumT a (s1.heap.objs.size + 1) s1.heap.objs.size, ⟨⟨.none, he⟩, hit, Nat.succ_ne_self _⟩, fun b hb => I1.fpOk (fp b hb) (I1.hok.fresh (fp b hb)), q⟩
/-- the items with their numbers -/
def enmL : Nat → List D → List D
  | _, [] => []
  | i, d :: ds => .tuple [.int i, d] :: enmL (i + 1) ds
theorem enmL_len : ∀ (i : Nat) (ds : List D), (enmL i ds).length = ds.length
  | _, [] => rfl
  | i, d :: ds => by rw [enmL, List.length_cons, List.length_cons, enmL_len]
theorem enmL_get : ∀ (i : Nat) {ds : List D} {k : Nat} {d : D}, ds[k]? = some d → (enmL i ds)[k]? = some (.tuple [.int ((i + k : Nat) : Int), d])
  | _, [], k, d, h => by simp at h
  | i, x :: ds, 0, d, h => by
    obtain rfl : x = d := by simpa using h
    simp [enmL]
  | i, x :: ds, k + 1, d, h => by
    rw [enmL, List.getElem?_cons_succ, enmL_get (i + 1) (by simpa using h)]
    rw [show i + 1 + k = i + (k + 1) by omega]
def enmS (d : D) : SM (List D) := match seqOf d with
  | some ds => ret (enmL 0 ds)
  | none => fun _ => .stuck
def enmE (da : SM EV) : SM (List D) := onE da fun ev => bnd (esc ev) enmS
theorem walk_el {Z : Hp} {a : Addr} {vs : List V} {ds : List D} (h : Z a = some (.lst vs)) (r : DqAll P.K Z vs ds) : WalkD P Z (Ite P.K a) (enmL 0 ds) := by
  have hl : vs.length = ds.length := dpA_len r
  refine ⟨fun i H hi s => ?_, fun H s => ⟨vs, SqL.of (s _ _ h), by rw [enmL_len, hl]; exact Nat.le_refl _⟩, fun i H x H' hi s y => ?_⟩
  · rw [enmL_len] at hi
    exact ⟨vs, vs[i]'(by omega), SqL.of (s _ _ h), List.getElem?_eq_getElem (by omega)⟩
  · obtain ⟨T, v, e1, e2, e3, hx⟩ := y
    obtain ⟨d, ed, rd⟩ := dpA_gi r (hx vs (SqL.of (s _ _ h)))
    exact ⟨_, enmL_get 0 ed, .inr ⟨T, .int (i : Nat), v, _, d, e1, e2, e3, rfl, by rw [Nat.zero_add]; exact .int _, rd⟩⟩
theorem walk_et {Z : Hp} {a : Addr} {vs : List V} {ds : List D} (h : SqT P.K Z a vs) (r : DqAll P.K Z vs ds) : WalkD P Z (IteT P.K a) (enmL 0 ds) := by
  have hl : vs.length = ds.length := dpA_len r
  refine ⟨fun i H hi s => ?_, fun H s => ⟨vs, seqT s h, by rw [enmL_len, hl]⟩, fun i H x H' hi s y => ?_⟩
  · rw [enmL_len] at hi
    exact ⟨vs, vs[i]'(by omega), seqT s h, List.getElem?_eq_getElem (by omega)⟩
  · obtain ⟨T, v, e1, e2, e3, hx⟩ := y
    obtain ⟨d, ed, rd⟩ := dpA_gi r (hx vs (seqT s h))
    exact ⟨_, enmL_get 0 ed, .inr ⟨T, .int (i : Nat), v, _, d, e1, e2, e3, rfl, by rw [Nat.zero_add]; exact .int _, rd⟩⟩
theorem mi_enum {e : Expr} {da : SM EV} {p pos tpos : Pos} {elts : List Expr} {kk : Nat} (hK : P.K = X.K) (hg : Gl X "enumerate") (hm : X.mg "enumerate" = none) (he : PE X e (TEo P W da)) (hs : starEach [e] X.env = (false, eval e X.env) :: starEach [] X.env := by rfl) (hs' : starEach [e] X.env = [(false, eval e X.env)] := by rfl) :
    PI X (.Tuple elts kk tpos) (.Call (.Name "enumerate" p) [e] [] pos) (TIo P W (enmE da)) :=
  piW (pi_enumA hg hm (pa_cons he pa_nil hs) hs') fun σ H R' ⟨c, g, Z, R, p⟩ => by
    refine TEo.on R p fun ev g1 v H1 Z1 s1 R1 vp p1 => ?_
    obtain ⟨d, g2, Z2, s2, R2, r2, p2⟩ := esc_ok R1 vp (post_bnd.mp p1)
    cases d with
    | list ds =>
      cases r2 with
      | lst h1 h2 => exact ⟨_, _, rfl, .inl ⟨SqL.of (R2.sub _ _ h1), by rw [← hK]; exact p2 H1 Z2 _ (s1.trans s2) R2 (walk_el h1 h2)⟩⟩
    | tuple ds =>
      cases r2 with
      | tup h1 h2 => exact ⟨_, _, rfl, .inr ⟨by rw [← hK]; exact seqT R2.sub h1, by rw [← hK]; exact p2 H1 Z2 _ (s1.trans s2) R2 (walk_et h1 h2)⟩⟩
    | none => exact p2.elim
    | bool _ => exact p2.elim
    | int _ => exact p2.elim
    | str _ => exact p2.elim
    | dict _ => exact p2.elim
theorem p_enmE {da : SM EV} {ok : List D → List Sl → Prop} {ex : Nat → Str → D → List Sl → Prop} {g : List Sl} : Post ok ex (enmE da g) = Post (cB (fun ev => bnd (esc (frz ev)) enmS) ok ex) ex (da g) := post_bnd_eq
theorem p_enmS {d : D} {ok : List D → List Sl → Prop} {ex : Nat → Str → D → List Sl → Prop} {g : List Sl} : Post ok ex (enmS d g) = cRn ok ((seqOf d).map (enmL 0)) g := by
  unfold enmS
  cases seqOf d <;> rfl
end
end Mw
namespace Mw
open PySem L2
/-! ## x += e of ints; rules for simp_arith [] -/
theorem pip_of {X : Cx} {op : Operator} {r : R2} (h : OpR X (inplaceOp op) r) : PIp X op r := h
def addI : D → D → Option Out
  | .int i, .int j => vI (i + j)
  | _, _ => none
theorem s_addI {K : PySem.W.Frag} : Sound2 K (rI0 fun i j => .int (i + j)) addI := s_int2 (f := fun i j => i + j) fun d e o h => by
  cases d <;> cases e <;> first | (cases h; done) | (cases h; exact ⟨_, _, rfl, rfl, rfl⟩)
theorem addI_ii (a b : Int) : addI (.int a) (.int b) = some (.val (.int (a + b))) := (Eq.refl (addI (.int a) (.int b))).trans rfl
def augR (i : Nat) (f : D → D → Option Out) (da : SM EV) : Option Sl → SM Fl
  | some (.fro d) => onE da fun y => bnd (app2 f (.fro d) y) fun ev => bnd (mvE ev) fun s => setS i s
  | _ => fun _ => .stuck
theorem augR_f {i : Nat} {f : D → D → Option Out} {da : SM EV} {d : D} {g : List Sl} : augR i f da (some (.fro d)) g = onE da (fun y => bnd (app2 f (.fro d) y) fun ev => bnd (mvE ev) fun s => setS i s) g := (Eq.refl (augR i f da (some (.fro d)) g)).trans rfl
theorem p_augS {i : Nat} {f : D → D → Option Out} {da : SM EV} {ok : Fl → List Sl → Prop} {ex : Nat → Str → D → List Sl → Prop} {g : List Sl} : Post ok ex (augS i f da g) = Post ok ex (augR i f da g[i]? g) := by
  unfold augS
  rw [post_bnd_eq]
  unfold vr
  cases g[i]? with
  | none => rfl
  | some s => cases s <;> rfl
/-- a while loop: I holds ahead of each test with at most m turns to come -/
theorem wh_wp {t : SM Bool} {b : SM Fl} {Q : Fl → List Sl → Prop} {ex : Nat → Str → D → List Sl → Prop} (I : Nat → List Sl → Prop)
    (step : ∀ m g, I m g → Post (fun c g1 => if c = true then ∃ m', m = m' + 1 ∧ Post (fun fl g2 => match fl with
      | .nx => I m' g2
      | .ct => I m' g2
      | .bk => Q .nx g2
      | .rt v => Q (.rt v) g2) ex (b g1) else Q .nx g1) ex (t g)) : ∀ (n m : Nat) (g : List Sl), m < n → I m g → Post Q ex (whL t b n g)
  | 0, m, g, h, _ => absurd h (Nat.not_lt_zero _)
  | n + 1, m, g, h, hI => by
    unfold whL
    refine post_bnd.mpr (post_mono (step m g hI) (fun c g1 h1 => ?_) fun _ _ _ _ q => q)
    cases c with
    | false => exact h1
    | true =>
      obtain ⟨m', rfl, h2⟩ := h1
      refine post_bnd.mpr (post_mono h2 (fun fl g2 h3 => ?_) fun _ _ _ _ q => q)
      cases fl with
      | nx => exact wh_wp I step n m' g2 (by omega) h3
      | ct => exact wh_wp I step n m' g2 (by omega) h3
      | bk => exact h3
      | rt v => exact h3
end Mw
namespace Mw
open PySem L2
/-! # lots of hours, in plain Lean -/
theorem stepP_len (ps : List (Int × Int)) (n : Int) : (stepP ps n).length ≤ ps.length + 1 := by
  unfold stepP
  split
  · rename_i p e
    split
    · rw [List.length_append, List.length_dropLast]
      have : ps ≠ [] := by rintro rfl; cases e
      have := List.length_pos_iff.mpr this
      rw [List.length_singleton]; omega
    · simp
  · simp
theorem foldP_len : ∀ (ns : List Int) (ps : List (Int × Int)), (ns.foldl stepP ps).length ≤ ps.length + ns.length
  | [], ps => by simp
  | n :: ns, ps => by
    rw [List.foldl_cons]
    have := foldP_len ns (stepP ps n)
    have := stepP_len ps n
    rw [List.length_cons]; omega
/-! ## runs -/
theorem upI_mem {i z : Int} {n : Nat} : z ∈ upI i n ↔ i ≤ z ∧ z < i + n := by
  unfold upI
  rw [List.mem_map]
  constructor
  · rintro ⟨k, hk, rfl⟩
    have := List.mem_range.mp hk
    omega
  · rintro ⟨h1, h2⟩
    exact ⟨(z - i).toNat, List.mem_range.mpr (by omega), by omega⟩
theorem upI_succ (i : Int) (n : Nat) : upI i (n + 1) = upI i n ++ [i + n] := by
  unfold upI
  rw [List.range_succ, List.map_append]; rfl
theorem upI_up (i : Int) : ∀ n, (upI i n).Pairwise (· < ·)
  | 0 => .nil
  | n + 1 => by
    rw [upI_succ, List.pairwise_append]
    refine ⟨upI_up i n, by simp, fun a ha b hb => ?_⟩
    rw [List.mem_singleton.mp hb]
    have := upI_mem.mp ha
    omega
def runs (ps : List (Int × Int)) : List Int := ps.flatMap fun p => upI p.1 (p.2 - p.1 + 1).toNat
def Sep (ps : List (Int × Int)) : Prop := ps.Pairwise (fun p q => p.2 + 1 < q.1) ∧ ∀ p ∈ ps, p.1 ≤ p.2
theorem runs_up {ps : List (Int × Int)} (h : Sep ps) : (runs ps).Pairwise (· < ·) := by
  unfold runs
  rw [List.pairwise_flatMap]
  refine ⟨fun p _ => upI_up _ _, h.1.imp fun {p q} hpq x hx y hy => ?_⟩
  have := upI_mem.mp hx
  have := upI_mem.mp hy
  omega
theorem runs_mem {ps : List (Int × Int)} {z : Int} : z ∈ runs ps ↔ ∃ p ∈ ps, p.1 ≤ z ∧ z ≤ p.2 := by
  unfold runs
  rw [List.mem_flatMap]
  constructor
  · rintro ⟨p, hp, hz⟩
    have := upI_mem.mp hz
    exact ⟨p, hp, by omega, by omega⟩
  · rintro ⟨p, hp, h1, h2⟩
    exact ⟨p, hp, upI_mem.mpr ⟨h1, by omega⟩⟩
theorem grow {qs : List (Int × Int)} {a : Int} (h : ∀ q ∈ qs, q.2 + 1 < a) : ∀ m : Nat, (upI a (m + 1)).foldl stepP qs = qs ++ [(a, a + m)]
  | 0 => by
    show stepP qs (a + 0) = _
    unfold stepP
    cases e : qs.getLast? with
    | none =>
      have : qs = [] := List.getLast?_eq_none_iff.mp e
      subst this
      simp
    | some p =>
      have hp := h p (List.mem_of_getLast? e)
      simp only
      rw [if_neg (by omega)]
      simp
  | m + 1 => by
    rw [upI_succ, List.foldl_append, grow h m]
    show stepP (qs ++ [(a, a + m)]) (a + ((m + 1 : Nat) : Int)) = _
    rw [stepP_app, if_pos (by omega)]
theorem leastP_runs : ∀ (ps qs : List (Int × Int)), Sep (qs ++ ps) → (runs ps).foldl stepP qs = qs ++ ps
  | [], qs, _ => by simp [runs]
  | p :: ps, qs, h => by
    have hq : ∀ q ∈ qs, q.2 + 1 < p.1 := fun q hq => (List.pairwise_append.mp h.1).2.2 q hq p (by simp)
    have hp := h.2 p (by simp)
    have e : runs (p :: ps) = upI p.1 (p.2 - p.1 + 1).toNat ++ runs ps := by unfold runs; rw [List.flatMap_cons]
    obtain ⟨m, hm⟩ : ∃ m : Nat, p.2 = p.1 + m := ⟨(p.2 - p.1).toNat, by omega⟩
    rw [e, List.foldl_append, show (p.2 - p.1 + 1).toNat = m + 1 by omega, grow hq m, ← hm]
    have := leastP_runs ps (qs ++ [p]) (by simpa using h)
    rw [this]
    simp
theorem least_of {ns : List Int} {ps : List (Int × Int)} (h : Sep ps) (hm : ∀ z, z ∈ ns ↔ ∃ p ∈ ps, p.1 ≤ z ∧ z ≤ p.2) : leastP (sdd ns) = ps := by
  have e : sdd ns = runs ps := up_unique (sdd_up ns) (runs_up h) fun z => sdd_mem.trans ((hm z).trans runs_mem.symm)
  rw [e]
  exact leastP_runs ps [] h

/-! ## the hours of some stretches -/
def InP (ps : List (Int × Int)) (z : Int) : Prop := ∃ p ∈ ps, p.1 ≤ z ∧ z ≤ p.2
def OkP (ps : List (Int × Int)) : Prop := ∀ p ∈ ps, p.1 ≤ p.2
theorem InP_nil {z : Int} : InP [] z ↔ False := by
  constructor
  · rintro ⟨_, h, _⟩
    cases h
  · intro h
    exact absurd h (by simp)
theorem InP_app {a b : List (Int × Int)} {z : Int} : InP (a ++ b) z ↔ InP a z ∨ InP b z := by
  unfold InP
  constructor
  · rintro ⟨p, hp, h⟩
    rcases List.mem_append.mp hp with hp | hp
    · exact .inl ⟨p, hp, h⟩
    · exact .inr ⟨p, hp, h⟩
  · rintro (⟨p, hp, h⟩ | ⟨p, hp, h⟩)
    · exact ⟨p, List.mem_append_left _ hp, h⟩
    · exact ⟨p, List.mem_append_right _ hp, h⟩
theorem InP_one {p : Int × Int} {z : Int} : InP [p] z ↔ p.1 ≤ z ∧ z ≤ p.2 := by
  unfold InP
  constructor
  · rintro ⟨q, hq, h⟩
    rw [List.mem_singleton.mp hq] at h; exact h
  · exact fun h => ⟨p, List.mem_singleton.mpr rfl, h⟩
theorem InP_perm {a b : List (Int × Int)} (h : a.Perm b) {z : Int} : InP a z ↔ InP b z := by
  unfold InP
  exact ⟨fun ⟨p, hp, k⟩ => ⟨p, h.mem_iff.mp hp, k⟩, fun ⟨p, hp, k⟩ => ⟨p, h.mem_iff.mpr hp, k⟩⟩
/-- least forms with the same hours are the same -/
theorem sep_unique {a b : List (Int × Int)} (ha : Sep a) (hb : Sep b) (h : ∀ z, InP a z ↔ InP b z) : a = b := by
  have e : runs a = runs b := up_unique (runs_up ha) (runs_up hb) fun z => (runs_mem.trans (h z)).trans runs_mem.symm
  have h1 := leastP_runs a [] ha
  have h2 := leastP_runs b [] hb
  rw [e, h2] at h1
  exact (by simpa using h1 : b = a).symm
/-! ## one sweep -/
def stepJ (told : List (Int × Int)) (p : Int × Int) : List (Int × Int) := match told.getLast? with
  | some q => if p.1 ≤ q.2 + 1 then told.dropLast ++ [(q.1, if q.2 > p.2 then q.2 else p.2)] else told ++ [p]
  | none => [p]
def joinP (ps : List (Int × Int)) : List (Int × Int) := (sortQ ps).foldl stepJ []
theorem stepJ_app {qs : List (Int × Int)} {q p : Int × Int} : stepJ (qs ++ [q]) p = if p.1 ≤ q.2 + 1 then qs ++ [(q.1, if q.2 > p.2 then q.2 else p.2)] else qs ++ [q] ++ [p] := by
  unfold stepJ
  rw [List.getLast?_concat, List.dropLast_concat]
theorem sep_snoc {qs : List (Int × Int)} {q : Int × Int} : Sep (qs ++ [q]) ↔ Sep qs ∧ (∀ r ∈ qs, r.2 + 1 < q.1) ∧ q.1 ≤ q.2 := by
  unfold Sep
  rw [List.pairwise_append]
  constructor
  · rintro ⟨⟨h1, _, h2⟩, h3⟩
    exact ⟨⟨h1, fun p hp => h3 p (List.mem_append_left _ hp)⟩, fun r hr => h2 r hr q (List.mem_singleton.mpr rfl), h3 q (List.mem_append_right _ (List.mem_singleton.mpr rfl))⟩
  · rintro ⟨⟨h1, h3⟩, h2, h4⟩
    refine ⟨⟨h1, by simp, fun a ha b hb => by rw [List.mem_singleton.mp hb]; exact h2 a ha⟩, fun p hp => ?_⟩
    rcases List.mem_append.mp hp with hp | hp
    · exact h3 p hp
    · rw [List.mem_singleton.mp hp]; exact h4
/-- told is the least form of what is behind, and begins no later than what comes -/
theorem sweep : ∀ (ps told : List (Int × Int)), OkP ps → ps.Pairwise (fun p q => p.1 ≤ q.1) → Sep told → (∀ q ∈ told, ∀ p ∈ ps, q.1 ≤ p.1) → Sep (ps.foldl stepJ told) ∧ ∀ z, InP (ps.foldl stepJ told) z ↔ InP told z ∨ InP ps z
  | [], told, _, _, hs, _ => ⟨hs, fun z => by rw [List.foldl_nil, InP_nil, or_false]⟩
  | p :: ps, told, ho, hp, hs, hle => by
    obtain ⟨hp1, hp2⟩ := List.pairwise_cons.mp hp
    have hpp := ho p (List.mem_cons_self ..)
    have ho2 : OkP ps := fun q hq => ho q (List.mem_cons_of_mem _ hq)
    have key : Sep (stepJ told p) ∧ (∀ q ∈ stepJ told p, ∀ r ∈ ps, q.1 ≤ r.1) ∧ ∀ z, InP (stepJ told p) z ↔ InP told z ∨ (p.1 ≤ z ∧ z ≤ p.2) := by
      rcases List.eq_nil_or_concat told with rfl | ⟨qs, q, rfl⟩
      · refine ⟨⟨by simp [stepJ], fun r hr => ?_⟩, fun r hr => ?_, fun z => ?_⟩
        · have : r = p := by simpa [stepJ] using hr
          rw [this]; exact hpp
        · have : r = p := by simpa [stepJ] using hr
          rw [this]; exact hp1
        · show InP [p] z ↔ _
          rw [InP_one, InP_nil, false_or]
      · rw [List.concat_eq_append] at *
        obtain ⟨s1, s2, s3⟩ := sep_snoc.mp hs
        have hq := hle q (by simp) p (List.mem_cons_self ..)
        rw [stepJ_app]
        by_cases c : p.1 ≤ q.2 + 1
        · rw [if_pos c]
          refine ⟨sep_snoc.mpr ⟨s1, s2, by show q.1 ≤ _; split <;> omega⟩, fun r hr t ht => ?_, fun z => ?_⟩
          · rcases List.mem_append.mp hr with hr | hr
            · exact hle r (List.mem_append_left _ hr) t (List.mem_cons_of_mem _ ht)
            · rw [List.mem_singleton.mp hr]
              exact hle q (by simp) t (List.mem_cons_of_mem _ ht)
          · rw [InP_app, InP_app, InP_one, InP_one]
            constructor
            · rintro (h | ⟨h1, h2⟩)
              · exact .inl (.inl h)
              · have h2 : z ≤ if q.2 > p.2 then q.2 else p.2 := h2
                have h1 : q.1 ≤ z := h1
                by_cases hz : z ≤ q.2
                · exact .inl (.inr ⟨h1, hz⟩)
                · refine .inr ⟨by omega, ?_⟩
                  split at h2 <;> omega
            · rintro ((h | ⟨h1, h2⟩) | ⟨h1, h2⟩)
              · exact .inl h
              · exact .inr ⟨h1, by show z ≤ if q.2 > p.2 then q.2 else p.2; split <;> omega⟩
              · exact .inr ⟨by show q.1 ≤ z; omega, by show z ≤ if q.2 > p.2 then q.2 else p.2; split <;> omega⟩
        · rw [if_neg c]
          refine ⟨sep_snoc.mpr ⟨hs, fun r hr => ?_, hpp⟩, fun r hr t ht => ?_, fun z => by rw [InP_app, InP_one]⟩
          · rcases List.mem_append.mp hr with hr | hr
            · have := s2 r hr
              omega
            · rw [List.mem_singleton.mp hr]; omega
          · rcases List.mem_append.mp hr with hr | hr
            · exact hle r hr t (List.mem_cons_of_mem _ ht)
            · rw [List.mem_singleton.mp hr]; exact hp1 t ht
    obtain ⟨k1, k2, k3⟩ := key
    obtain ⟨r1, r2⟩ := sweep ps (stepJ told p) ho2 hp2 k1 k2
    rw [List.foldl_cons]
    refine ⟨r1, fun z => ?_⟩
    rw [r2 z, k3 z, or_assoc]
    refine or_congr_right ?_
    rw [show p :: ps = [p] ++ ps from rfl, InP_app, InP_one]
theorem joinP_spec {ps : List (Int × Int)} (h : OkP ps) : Sep (joinP ps) ∧ ∀ z, InP (joinP ps) z ↔ InP ps z := by
  have hs : OkP (sortQ ps) := fun p hp => h p ((sortQ_perm ps).mem_iff.mp hp)
  have hu : (sortQ ps).Pairwise fun p q => p.1 ≤ q.1 := (sortQ_up ps).imp fun {p q} k => by
    have := ltQ_no.mp k
    omega
  obtain ⟨r1, r2⟩ := sweep (sortQ ps) [] hs hu ⟨.nil, fun _ h => nomatch h⟩ (fun _ h => nomatch h)
  refine ⟨r1, fun z => ?_⟩
  show InP ((sortQ ps).foldl stepJ []) z ↔ _
  rw [r2 z, InP_nil, false_or]
  exact InP_perm (sortQ_perm ps)
theorem joinP_is {ps qs : List (Int × Int)} (h : OkP ps) (hq : Sep qs) (e : ∀ z, InP ps z ↔ InP qs z) : joinP ps = qs :=
  sep_unique (joinP_spec h).1 hq fun z => ((joinP_spec h).2 z).trans (e z)
end Mw
namespace Mw
open PySem L2
/-! # item assignment, equal data, membership -/
section
variable {okF : Fl → List Sl → Prop} {ex : Nat → Str → D → List Sl → Prop} {g : List Sl}
def cK (i : Nat) (d : D) (ok : Fl → List Sl → Prop) (ex : Nat → Str → D → List Sl → Prop) (g : List Sl) : Option D → Prop
  | some (.int k) => Post ok ex (bnd (slotL i (setF k d)) (fun _ => ret .nx) g)
  | _ => False
theorem cK_i {i : Nat} {d : D} {k : Int} : cK i d okF ex g (some (.int k)) = Post okF ex (bnd (slotL i (setF k d)) (fun _ => ret .nx) g) := (Eq.refl (cK i d okF ex g (some (.int k)))).trans rfl
theorem p_setK {i : Nat} {d : D} {y : EV} : Post okF ex (setK i d y g) = cK i d okF ex g (look g y) := by
  unfold setK cK
  cases look g y with
  | none => rfl
  | some e => cases e <;> rfl
theorem p_ixS {i : Nat} {dk da : SM EV} : Post okF ex (ixS i dk da g) = Post (cB (fun ev => bnd (esc (frz ev)) fun d => bnd (muG i) fun _ => onE dk (setK i d)) okF ex) ex (da g) := post_bnd_eq
end
theorem setF_last {ds : List D} {d e : D} : setF (-1) d (ds ++ [e]) = some (ds ++ [d], .none) := by
  have h : ixN (ds ++ [e]).length (-1) = some ds.length := by
    unfold ixN
    rw [if_neg (by decide), List.length_append, List.length_singleton, if_pos (by omega)]
    congr 1
    omega
  unfold setF
  rw [h]
  show some ((ds ++ [e]).set ds.length d, PyData.none) = _
  rw [List.set_append_right _ _ (Nat.le_refl _), Nat.sub_self]
  rfl
theorem neD_self {d : D} (h : shp d = true) : neD d d = some (.val (.bool false)) := by
  unfold neD gd vB
  rw [h, SeqAt.eqv_refl d (SeqAt.canLay_of_shaped h)]; rfl
theorem eqD_self {d : D} (h : shp d = true) : eqD d d = some (.val (.bool true)) := by
  unfold eqD gd vB
  rw [h, SeqAt.eqv_refl d (SeqAt.canLay_of_shaped h)]; rfl
theorem memD_i (z : Int) : ∀ ns : List Int, memD (.int z) (ns.map PyData.int) = decide (z ∈ ns)
  | [] => rfl
  | n :: ns => by
    have ih := memD_i z ns
    unfold memD at *
    rw [List.map_cons, List.any_cons, ih, eqv_i]
    by_cases c : n = z
    · have hm : z ∈ n :: ns := by subst c; exact List.mem_cons_self ..
      rw [decide_eq_true c, decide_eq_true hm, Bool.true_or]
    · rw [decide_eq_false c, Bool.false_or]
      by_cases c2 : z ∈ ns
      · rw [decide_eq_true c2, decide_eq_true (List.mem_cons_of_mem _ c2)]
      · rw [decide_eq_false c2, decide_eq_false (fun h => by
          rcases List.mem_cons.mp h with h | h
          · exact c h.symm
          · exact c2 h)]
theorem flat_i : ∀ ns : List Int, (ns.map PyData.int).all flatD = true
  | [] => rfl
  | n :: ns => by rw [List.map_cons, List.all_cons, flat_i ns]; rfl
theorem inD_f (z : Int) (ns : List Int) : inD false (.int z) (.list (ns.map PyData.int)) = some (.val (.bool (decide (z ∈ ns)))) := by
  show gd _ _ = _
  unfold gd vB
  rw [flat_i, memD_i]; rfl
theorem inD_t (z : Int) (ns : List Int) : inD true (.int z) (.list (ns.map PyData.int)) = some (.val (.bool (!decide (z ∈ ns)))) := by
  show gd _ _ = _
  unfold gd vB
  rw [flat_i, memD_i]; rfl
theorem sumF_i (ns : List Int) : sumF [.list (ns.map PyData.int)] = some (.val (.int ns.sum)) := by
  have e : intsOf (ns.map PyData.int) = some ns := by
    induction ns with
    | nil => rfl
    | cons n ns ih => show (intsOf (ns.map PyData.int)).map _ = _; rw [ih]; rfl
  show (intsOf (ns.map PyData.int)).bind _ = _
  rw [e]; rfl
/-! ## pairs as data -/
def prs (ps : List (Int × Int)) : List D := ps.map prQ
theorem prs_app (a b : List (Int × Int)) : prs (a ++ b) = prs a ++ prs b := List.map_append
theorem prs_len (a : List (Int × Int)) : (prs a).length = a.length := List.length_map _
theorem prs_get {ps : List (Int × Int)} {i : Nat} {d : D} (h : (prs ps)[i]? = some d) : ∃ p, ps[i]? = some p ∧ d = prQ p := by
  unfold prs at h
  rw [List.getElem?_map] at h
  cases e : ps[i]? with
  | none => rw [e] at h; cases h
  | some p => rw [e] at h; exact ⟨p, rfl, (Option.some.inj h).symm⟩
theorem prs_take {ps : List (Int × Int)} {i : Nat} {p : Int × Int} (h : ps[i]? = some p) : prs (ps.take (i + 1)) = prs (ps.take i) ++ [prQ p] := by
  rw [List.take_add_one, h, prs_app]; rfl
theorem plA_prs : ∀ l : List (Int × Int), plA (prs l) = true
  | [] => rfl
  | p :: l => by
    show (plB (prQ p) && plA (prs l)) = true
    rw [plA_prs l]; rfl
theorem szA_prs : ∀ l : List (Int × Int), szA (prs l) = 3 * l.length
  | [] => rfl
  | p :: l => by
    show szD (prQ p) + szA (prs l) = _
    rw [szA_prs l, List.length_cons]
    have : szD (prQ p) = 3 := by simp [prQ, szD, szA]
    omega
theorem sortA_prs (ps : List (Int × Int)) : sortA [.list (prs ps)] = some (.lstN (prs (sortQ ps))) := by
  unfold sortA
  cases ps with
  | nil => rfl
  | cons p ps =>
    have e : sortedF [.list (prs (p :: ps))] = none := rfl
    rw [e, Option.orElse_none]
    unfold sortPF
    show (pairsQ (prs (p :: ps))).bind _ = _
    have := pairsQ_i (p :: ps)
    unfold prs
    rw [this]; rfl
theorem at0 {a b : D} : atI [a, b] 0 = some a := rfl
theorem at1 {a b : D} : atI [a, b] 1 = some b := rfl
theorem addL {xs ys : List D} (h : xs.length + ys.length ≤ 100000) : addD (.list xs) (.list ys) = some (.lstN (xs ++ ys)) := by
  show gd _ _ = _
  unfold gd
  have : SZ = 16777216 := rfl
  rw [decide_eq_true (by omega), if_pos rfl]
theorem lrng_ok {i j : Int} (h1 : -1000000 ≤ i) (h2 : i ≤ 1000000) (h3 : -1000000 ≤ j) (h4 : j ≤ i + 1000000) : lrngF [.int i, .int j] = some (.lstN ((upI i (j - i).toNat).map PyData.int)) := by
  have a : rOk i = true := by unfold rOk; exact decide_eq_true (by have : (2 : Int) ^ 62 = 4611686018427387904 := rfl; omega)
  have b : rOk j = true := by unfold rOk; exact decide_eq_true (by have : (2 : Int) ^ 62 = 4611686018427387904 := rfl; omega)
  show gd _ _ = _
  unfold gd
  rw [a, b, decide_eq_true (by omega : j - i ≤ 1000000), rngL_up]
  rfl
/-! ## the for of the least form -/
theorem intsOf_m : ∀ zs : List Int, intsOf (zs.map PyData.int) = some zs
  | [] => rfl
  | z :: zs => by
    have := intsOf_m zs
    show (intsOf (zs.map PyData.int)).map (z :: ·) = _
    rw [this]; rfl
theorem p_leastS {it : SM (List D)} {ok : Fl → List Sl → Prop} {ex : Nat → Str → D → List Sl → Prop} {g : List Sl} : Post ok ex (leastS it g) = Post (cB leastG ok ex) ex (it g) := post_bnd_eq
theorem p_leastG {ns : List Int} {d : D} {ok : Fl → List Sl → Prop} {ex : Nat → Str → D → List Sl → Prop} (h : ns.length ≤ 1000000) : Post ok ex (leastG (ns.map PyData.int) [.fro d, .own [], .un, .un]) = ok .nx [.fro d, .own ((leastP ns).map prL), .un, .un] := by
  unfold leastG
  rw [intsOf_m]
  show Post ok ex (if 2 < [Sl.fro d, .own [], .un, .un].length ∧ (g0S [Sl.fro d, .own [], .un, .un]).all plS = true ∧ ns.length ≤ 1000000 then _ else _) = _
  rw [if_pos ⟨(by decide : 2 < 4), rfl, h⟩]
  rfl
theorem sset_ok {ns : List Int} (h : (sdd ns).length ≤ 4000) : ssetF [.list (ns.map PyData.int)] = some (.lstN ((sdd ns).map PyData.int)) := by
  unfold ssetF
  show (intsOf (ns.map PyData.int)).bind _ = _
  rw [intsOf_m]
  show (if (sdd ns).length ≤ 4000 then _ else _) = _
  rw [if_pos h]
theorem rOk_le {i : Int} (h1 : -1000000 ≤ i) (h2 : i ≤ 1000000) : rOk i = true := by unfold rOk; exact decide_eq_true (by have : (2 : Int) ^ 62 = 4611686018427387904 := rfl; omega)
theorem lt_SZ {n : Nat} (h : n ≤ 1000000) : n < SZ := by have : SZ = 16777216 := rfl; omega
theorem le_SZ {n : Nat} (h : n ≤ 1000000) : n ≤ SZ := by have : SZ = 16777216 := rfl; omega
end Mw
namespace G00
open PySem L2 Mw
def topS (i : Nat) : Stmt := PySem.Challenge.pw_lastisdone_k00_lots_hour_by_hour.main.body.getD i (.Pass ⟨0, 0, 0, 0⟩)
def sbL : List (List Bool) := [[true, false, false, false], [true, true, false, false], [true, true, true, false], [true, true, false, true]]
def sbT (k j : Nat) : Bool := (sbL.getD k []).getD j false
def d__law_as : SM Fl := (seqS (asgS 2 (lcE [3] (seqE (vr 0)) (.one 3) (ret true) (vr 3)))
      (seqS (ifS (tstE (op2 geD (vr 1) (cst (.int 2)))) (asgS 2 (lcE [3] (seqE (vr 0)) (.one 3) (ret true) (opN listF (argsCons (vr 3) argsNil)))) nxS)
      (seqS (ifS (orT (tstE (op2 eqD (vr 1) (cst (.int 1)))) (tstE (op2 eqD (vr 1) (cst (.int 3))))) (retS (vr 2)) nxS)
      (retS (opN tupleF (argsCons (vr 2) argsNil))))))
def F__law_as : Fd := fdN 2 2 d__law_as
def d__law_blocks : SM Fl := (retS (opN tupleF (argsCons (lcE [3] (seqE (vr 0)) (.one 3) (ret true) (tupE (argsCons (op2 addD (op2 mulA (op2 ixD (vr 3) (cst (.int 0))) (vr 1)) (vr 2)) (argsCons (op2 addD (op2 subD (op2 addD (op2 mulA (op2 ixD (vr 3) (cst (.int 1))) (vr 1)) (vr 1)) (cst (.int 1))) (vr 2)) argsNil)))) argsNil)))
def F__law_blocks : Fd := fdN 3 1 d__law_blocks
def d__law_least_form : SM Fl := (seqS (asgS 1 (lstE argsNil))
      (seqS (leastS (seqE (opN ssetF (argsCons (vr 0) argsNil))))
      (retS (opN tupleF (argsCons (lcE [3] (seqE (vr 1)) (.one 3) (ret true) (tupE (argsCons (op2 ixD (vr 3) (cst (.int 0))) (argsCons (op2 ixD (vr 3) (cst (.int 1))) argsNil)))) argsNil)))))
def F__law_least_form : Fd := fdN 1 3 d__law_least_form
def d__law_gaps : SM Fl := (seqS (ifS (tstE (op2 eqD (opN lenF (argsCons (vr 0) argsNil)) (cst (.int 0)))) (retS (tupE argsNil)) nxS)
      (retS (callE F__law_least_form (argsCons (lcE [1] (rngE rngF2 (argsCons (op2 ixD (vr 0) (cst (.int 0))) (argsCons (op2 addD (op2 ixD (vr 0) (op1 negD (cst (.int 1)))) (cst (.int 1))) argsNil))) (.one 1) (tstE (op2 (inD true) (vr 1) (vr 0))) (vr 1)) argsNil))))
def F__law_gaps : Fd := fdN 1 1 d__law_gaps
def d__law_just : SM Fl := (seqS (asgS 2 (lstE (argsCons (tupE (argsCons (vr 0) (argsCons (vr 1) argsNil))) argsNil)))
      (seqS (forS (rngE rngF1 (argsCons (cst (.int 1000000)) argsNil)) (.one 3) (seqS (ifS (tstE (op2 eqD (opN lenF (argsCons (vr 2) argsNil)) (cst (.int 0)))) bkS nxS)
      (seqS (asgT (.tup [4, 5]) (popE 2))
      (ifS (tstE (op1 (isiF [.tuple]) (vr 5))) (seqS (ifS (orT (notT (tstE (op1 (isiF [.tuple]) (vr 4)))) (tstE (op2 neD (opN lenF (argsCons (vr 4) argsNil)) (opN lenF (argsCons (vr 5) argsNil))))) (retS (cst (.bool false))) nxS)
      (forS (rngE rngF1 (argsCons (opN lenF (argsCons (vr 5) argsNil)) argsNil)) (.one 6) (exprS (apE 2 (tupE (argsCons (op2 ixD (vr 4) (vr 6)) (argsCons (op2 ixD (vr 5) (vr 6)) argsNil))))))) (ifS (orT (tstE (op1 isNF (vr 5))) (orT (tstE (op2 isBD (vr 5) (cst (.bool true)))) (tstE (op2 isBD (vr 5) (cst (.bool false)))))) (ifS (orT (tstE (op2 neD (op1 isNF (vr 4)) (op1 isNF (vr 5)))) (orT (tstE (op2 neD (op2 isBD (vr 4) (cst (.bool true))) (op2 isBD (vr 5) (cst (.bool true))))) (tstE (op2 neD (op2 isBD (vr 4) (cst (.bool false))) (op2 isBD (vr 5) (cst (.bool false))))))) (retS (cst (.bool false))) nxS) (ifS (tstE (op1 (isiF [.int]) (vr 5))) (ifS (orT (tstE (op1 (isiF [.bool]) (vr 4))) (orT (notT (tstE (op1 (isiF [.int]) (vr 4)))) (tstE (op2 neD (vr 4) (vr 5))))) (retS (cst (.bool false))) nxS) (ifS (orT (notT (tstE (op1 (isiF [.str]) (vr 4)))) (tstE (op2 neD (vr 4) (vr 5)))) (retS (cst (.bool false))) nxS)))))))
      (retS (op2 eqD (opN lenF (argsCons (vr 2) argsNil)) (cst (.int 0))))))
def F__law_just : Fd := fdN 2 5 d__law_just
def d_joined_up : SM Fl := (seqS (asgS 1 (lstE argsNil))
      (seqS (forS (seqE (opN sortA (argsCons (vr 0) argsNil))) (.tup [2, 3]) (ifS (andT (truE (vr 1)) (tstE (op2 leD (vr 2) (op2 addD (op2 ixD (op2 ixD (vr 1) (op1 negD (cst (.int 1)))) (cst (.int 1))) (cst (.int 1)))))) (ixS 1 (op1 negD (cst (.int 1))) (tupE (argsCons (op2 ixD (op2 ixD (vr 1) (op1 negD (cst (.int 1)))) (cst (.int 0))) (argsCons (opN maxF (argsCons (vr 3) (argsCons (op2 ixD (op2 ixD (vr 1) (op1 negD (cst (.int 1)))) (cst (.int 1))) argsNil))) argsNil)))) (exprS (apE 1 (tupE (argsCons (vr 2) (argsCons (vr 3) argsNil)))))))
      (retS (opN tupleF (argsCons (vr 1) argsNil)))))
def F_joined_up : Fd := fdN 1 3 d_joined_up
def d_tupled (F_self : Fd) : SM Fl := (seqS (ifS (tstE (op1 (isiF [.list, .tuple]) (vr 0))) (retS (opN tupleF (argsCons (lcE [1] (seqE (vr 0)) (.one 1) (ret true) (callE F_self (argsCons (vr 1) argsNil))) argsNil))) nxS)
      (retS (vr 0)))
def F_tupled : Nat → Fd
  | 0 => fun _ => .stuck
  | n + 1 => fdN 1 1 (d_tupled (F_tupled n))
def ini_BadHours : SM EV := (callE (F_tupled 6) (argsCons (vr 1) argsNil))
def d_is_int : SM Fl := (retS (andV (op1 (isiF [.int]) (vr 0)) (notV (op1 (isiF [.bool]) (vr 0)))))
def F_is_int : Fd := fdN 1 0 d_is_int
def d_is_stretch : SM Fl := (seqS (ifS (notT (tstE (op1 (isiF [.tuple, .list]) (vr 0)))) (retS (cst (.bool false))) nxS)
      (seqS (ifS (tstE (op2 neD (opN lenF (argsCons (vr 0) argsNil)) (cst (.int 2)))) (retS (cst (.bool false))) nxS)
      (seqS (ifS (orT (notT (tstE (callE F_is_int (argsCons (op2 ixD (vr 0) (cst (.int 0))) argsNil)))) (notT (tstE (callE F_is_int (argsCons (op2 ixD (vr 0) (cst (.int 1))) argsNil))))) (retS (cst (.bool false))) nxS)
      (retS (op2 leD (op2 ixD (vr 0) (cst (.int 0))) (op2 ixD (vr 0) (cst (.int 1))))))))
def F_is_stretch : Fd := fdN 1 0 d_is_stretch
def d_lot_fault : SM Fl := (seqS (ifS (notT (tstE (op1 (isiF [.tuple, .list]) (vr 0)))) (retS (op1 negD (cst (.int 1)))) nxS)
      (seqS (forS (enmE (vr 0)) (.tup [1, 2]) (ifS (notT (tstE (callE F_is_stretch (argsCons (vr 2) argsNil)))) (retS (vr 1)) nxS))
      (retS (cst .none))))
def F_lot_fault : Fd := fdN 1 2 d_lot_fault
def d_pairs_of : SM Fl := (seqS (asgS 1 (callE F_lot_fault (argsCons (vr 0) argsNil)))
      (seqS (ifS (tstE (op1 noNF (vr 1))) (raiseS 3 "at" (iniD ini_BadHours) (vr 1)) nxS)
      (retS (lcE [2] (seqE (vr 0)) (.one 2) (ret true) (tupE (argsCons (op2 ixD (vr 2) (cst (.int 0))) (argsCons (op2 ixD (vr 2) (cst (.int 1))) argsNil)))))))
def F_pairs_of : Fd := fdN 1 2 d_pairs_of
def d_first_hour : SM Fl := (seqS (asgS 1 (callE F_joined_up (argsCons (callE F_pairs_of (argsCons (vr 0) argsNil)) argsNil)))
      (seqS (ifS (notT (truE (vr 1))) (retS (cst .none)) nxS)
      (retS (op2 ixD (op2 ixD (vr 1) (cst (.int 0))) (cst (.int 0))))))
def F_first_hour : Fd := fdN 1 1 d_first_hour
def ini_BadNumber : SM EV := (callE (F_tupled 6) (argsCons (vr 1) argsNil))
def d_has_hour : SM Fl := (seqS (asgS 2 (callE F_pairs_of (argsCons (vr 0) argsNil)))
      (seqS (ifS (notT (tstE (callE F_is_int (argsCons (vr 1) argsNil)))) (raiseS 2 "at" (iniD ini_BadNumber) (vr 1)) nxS)
      (seqS (forS (seqE (vr 2)) (.tup [3, 4]) (ifS (tstE (chE leD leD (vr 3) (vr 1) (vr 4))) (retS (cst (.bool true))) nxS))
      (retS (cst (.bool false))))))
def F_has_hour : Fd := fdN 2 3 d_has_hour
def d_last_hour : SM Fl := (seqS (asgS 1 (callE F_joined_up (argsCons (callE F_pairs_of (argsCons (vr 0) argsNil)) argsNil)))
      (seqS (ifS (notT (truE (vr 1))) (retS (cst .none)) nxS)
      (retS (op2 ixD (op2 ixD (vr 1) (op1 negD (cst (.int 1)))) (cst (.int 1))))))
def F_last_hour : Fd := fdN 1 1 d_last_hour
def d_least_form : SM Fl := (retS (callE F_joined_up (argsCons (callE F_pairs_of (argsCons (vr 0) argsNil)) argsNil)))
def F_least_form : Fd := fdN 1 0 d_least_form
def d_lot_count : SM Fl := (retS (opN (seqF sumF) (argsCons (lcE [1, 2] (seqE (callE F_joined_up (argsCons (callE F_pairs_of (argsCons (vr 0) argsNil)) argsNil))) (.tup [1, 2]) (ret true) (op2 addD (op2 subD (vr 2) (vr 1)) (cst (.int 1)))) argsNil)))
def F_lot_count : Fd := fdN 1 2 d_lot_count
def d_lot_holes : SM Fl := (seqS (asgS 1 (callE F_joined_up (argsCons (callE F_pairs_of (argsCons (vr 0) argsNil)) argsNil)))
      (retS (opN tupleF (argsCons (lcE [2] (rngE rngF1 (argsCons (op2 subD (opN lenF (argsCons (vr 1) argsNil)) (cst (.int 1))) argsNil)) (.one 2) (ret true) (tupE (argsCons (op2 addD (op2 ixD (op2 ixD (vr 1) (vr 2)) (cst (.int 1))) (cst (.int 1))) (argsCons (op2 subD (op2 ixD (op2 ixD (vr 1) (op2 addD (vr 2) (cst (.int 1)))) (cst (.int 0))) (cst (.int 1))) argsNil)))) argsNil))))
def F_lot_holes : Fd := fdN 1 2 d_lot_holes
def d__law_alone : SM Fl := (seqS (asgS 5 (callE F__law_blocks (argsCons (callE F__law_least_form (argsCons (vr 2) argsNil)) (argsCons (vr 3) (argsCons (vr 4) argsNil)))))
      (seqS (asgS 6 (callE F__law_blocks (argsCons (callE F__law_gaps (argsCons (vr 2) argsNil)) (argsCons (vr 3) (argsCons (vr 4) argsNil)))))
      (seqS (asgS 7 (cst .none))
      (seqS (asgS 8 (cst .none))
      (seqS (ifS (tstE (op2 gtD (opN lenF (argsCons (vr 2) argsNil)) (cst (.int 0)))) (seqS (asgS 7 (op2 addD (op2 mulA (op2 ixD (vr 2) (cst (.int 0))) (vr 3)) (vr 4)))
      (asgS 8 (op2 addD (op2 subD (op2 addD (op2 mulA (op2 ixD (vr 2) (op1 negD (cst (.int 1)))) (vr 3)) (vr 3)) (cst (.int 1))) (vr 4)))) nxS)
      (seqS (asgS 9 (callE F__law_as (argsCons (vr 0) (argsCons (vr 1) argsNil))))
      (seqS (ifS (orT (notT (tstE (callE F__law_just (argsCons (callE F_least_form (argsCons (vr 9) argsNil)) (argsCons (vr 5) argsNil))))) (tstE (op2 neD (vr 9) (callE F__law_as (argsCons (vr 0) (argsCons (vr 1) argsNil)))))) (retS (cst (.bool false))) nxS)
      (seqS (ifS (notT (tstE (callE F__law_just (argsCons (callE F_lot_count (argsCons (callE F__law_as (argsCons (vr 0) (argsCons (vr 1) argsNil))) argsNil)) (argsCons (op2 mulA (opN lenF (argsCons (vr 2) argsNil)) (vr 3)) argsNil))))) (retS (cst (.bool false))) nxS)
      (seqS (ifS (orT (notT (tstE (callE F__law_just (argsCons (callE F_first_hour (argsCons (callE F__law_as (argsCons (vr 0) (argsCons (vr 1) argsNil))) argsNil)) (argsCons (vr 7) argsNil))))) (notT (tstE (callE F__law_just (argsCons (callE F_last_hour (argsCons (callE F__law_as (argsCons (vr 0) (argsCons (vr 1) argsNil))) argsNil)) (argsCons (vr 8) argsNil)))))) (retS (cst (.bool false))) nxS)
      (seqS (ifS (notT (tstE (callE F__law_just (argsCons (callE F_lot_holes (argsCons (callE F__law_as (argsCons (vr 0) (argsCons (vr 1) argsNil))) argsNil)) (argsCons (vr 6) argsNil))))) (retS (cst (.bool false))) nxS)
      (seqS (forS (rngE rngF2 (argsCons (op1 negD (cst (.int 22))) (argsCons (cst (.int 20)) argsNil))) (.one 10) (seqS (asgS 11 (op2 (inD false) (vr 10) (vr 2)))
      (seqS (ifS (notT (tstE (callE F__law_just (argsCons (callE F_has_hour (argsCons (callE F__law_as (argsCons (vr 0) (argsCons (vr 1) argsNil))) (argsCons (op2 addD (op2 mulA (vr 10) (vr 3)) (vr 4)) argsNil))) (argsCons (vr 11) argsNil))))) (retS (cst (.bool false))) nxS)
      (ifS (notT (tstE (callE F__law_just (argsCons (callE F_has_hour (argsCons (callE F__law_as (argsCons (vr 0) (argsCons (vr 1) argsNil))) (argsCons (op2 addD (op2 subD (op2 addD (op2 mulA (vr 10) (vr 3)) (vr 3)) (cst (.int 1))) (vr 4)) argsNil))) (argsCons (vr 11) argsNil))))) (retS (cst (.bool false))) nxS))))
      (retS (cst (.bool true))))))))))))))
def F__law_alone : Fd := fdN 5 7 d__law_alone
def d__law_clip : SM Fl := (seqS (asgS 3 (lstE argsNil))
      (seqS (forS (seqE (vr 0)) (.one 4) (seqS (asgS 5 (op2 ixD (vr 4) (cst (.int 0))))
      (seqS (asgS 6 (op2 ixD (vr 4) (cst (.int 1))))
      (seqS (ifS (andT (tstE (op1 noNF (vr 1))) (tstE (op2 ltD (vr 5) (vr 1)))) (asgS 5 (vr 1)) nxS)
      (seqS (ifS (andT (tstE (op1 noNF (vr 2))) (tstE (op2 gtD (vr 6) (vr 2)))) (asgS 6 (vr 2)) nxS)
      (ifS (tstE (op2 leD (vr 5) (vr 6))) (exprS (apE 3 (tupE (argsCons (vr 5) (argsCons (vr 6) argsNil))))) nxS))))))
      (retS (opN tupleF (argsCons (vr 3) argsNil)))))
def F__law_clip : Fd := fdN 3 4 d__law_clip
def d__law_take : SM Fl := (seqS (ifS (tstE (op2 eqD (opN lenF (argsCons (vr 0) argsNil)) (cst (.int 0)))) (retS (cst (.int 0))) nxS)
      (retS (op2 modD (opN intF (argsCons (popE 0) argsNil)) (vr 1))))
def F__law_take : Fd := fdN 2 0 d__law_take
def d__law_lot : SM Fl := (seqS (asgS 3 (lstE argsNil))
      (seqS (forS (rngE rngF1 (argsCons (op2 addD (cst (.int 1)) (callB F__law_take (argsCons (vr 0) (argsCons (vr 1) argsNil)))) argsNil)) (.one 4) (seqS (asgS 5 (op2 subD (callB F__law_take (argsCons (vr 0) (argsCons (vr 2) argsNil))) (op2 ixD (tupE (argsCons (cst (.int 0)) (argsCons (cst (.int 0)) (argsCons (cst (.int 20)) argsNil)))) (callB F__law_take (argsCons (vr 0) (argsCons (cst (.int 3)) argsNil))))))
      (exprS (apE 3 (tupE (argsCons (vr 5) (argsCons (op2 addD (vr 5) (op2 ixD (tupE (argsCons (cst (.int 0)) (argsCons (cst (.int 1)) (argsCons (cst (.int 3)) (argsCons (cst (.int 2)) (argsCons (cst (.int 6)) argsNil)))))) (callB F__law_take (argsCons (vr 0) (argsCons (cst (.int 5)) argsNil))))) argsNil)))))))
      (retS (opN tupleF (argsCons (vr 3) argsNil)))))
def F__law_lot : Fd := fdN 3 3 d__law_lot
def d__law_drawn : SM Fl := (seqS (asgS 1 (callB F__law_lot (argsCons (vr 0) (argsCons (cst (.int 4)) (argsCons (cst (.int 12)) argsNil)))))
      (seqS (asgS 2 (callB F__law_take (argsCons (vr 0) (argsCons (cst (.int 6)) argsNil))))
      (seqS (ifS (tstE (op2 eqD (vr 2) (cst (.int 1)))) (retS (tupE argsNil)) nxS)
      (seqS (ifS (tstE (op2 eqD (vr 2) (cst (.int 2)))) (retS (op2 addD (vr 1) (slE (vr 1) (ret none) (partE (cst (.int 1)))))) nxS)
      (retS (vr 1))))))
def F__law_drawn : Fd := fdN 1 2 d__law_drawn
def d__law_edge : SM Fl := (seqS (asgS 3 (op2 addD (op2 addD (op2 mulA (op2 subD (callB F__law_take (argsCons (vr 0) (argsCons (cst (.int 45)) argsNil))) (cst (.int 23))) (vr 1)) (vr 2)) (op2 ixD (tupE (argsCons (cst (.int 0)) (argsCons (cst (.int 1)) (argsCons (op2 divD (vr 1) (cst (.int 2))) argsNil)))) (callB F__law_take (argsCons (vr 0) (argsCons (cst (.int 3)) argsNil))))))
      (seqS (ifS (tstE (op2 eqD (callB F__law_take (argsCons (vr 0) (argsCons (cst (.int 3)) argsNil))) (cst (.int 1)))) (retS (cst .none)) nxS)
      (retS (vr 3))))
def F__law_edge : Fd := fdN 3 1 d__law_edge
def d__law_hours : SM Fl := (seqS (asgS 1 (lstE argsNil))
      (seqS (forS (seqE (vr 0)) (.one 2) (asgS 1 (op2 addD (vr 1) (opN lrngF (argsCons (op2 ixD (vr 2) (cst (.int 0))) (argsCons (op2 addD (op2 ixD (vr 2) (cst (.int 1))) (cst (.int 1))) argsNil))))))
      (retS (opN ssetF (argsCons (vr 1) argsNil)))))
def F__law_hours : Fd := fdN 1 2 d__law_hours
def d_other_pairs_of : SM Fl := (seqS (asgS 1 (callE F_lot_fault (argsCons (vr 0) argsNil)))
      (seqS (ifS (tstE (op1 noNF (vr 1))) (raiseS 3 "at" (iniD ini_BadHours) (tupE (argsCons (vr 1) (argsCons (op1 negD (cst (.int 1))) argsNil)))) nxS)
      (retS (lcE [2] (seqE (vr 0)) (.one 2) (ret true) (tupE (argsCons (op2 ixD (vr 2) (cst (.int 0))) (argsCons (op2 ixD (vr 2) (cst (.int 1))) argsNil)))))))
def F_other_pairs_of : Fd := fdN 1 2 d_other_pairs_of
def fu_shared_by0 : List Sl → Nat := fun _ => 1000000
def d_shared_by : SM Fl := (seqS (asgS 2 (lstE argsNil))
      (seqS (asgT (.tup [3, 4]) (tupE (argsCons (cst (.int 0)) (argsCons (cst (.int 0)) argsNil))))
      (seqS (whS fu_shared_by0 (andT (tstE (op2 ltD (vr 3) (opN lenF (argsCons (vr 0) argsNil)))) (tstE (op2 ltD (vr 4) (opN lenF (argsCons (vr 1) argsNil))))) (seqS (asgS 5 (opN maxF (argsCons (op2 ixD (op2 ixD (vr 0) (vr 3)) (cst (.int 0))) (argsCons (op2 ixD (op2 ixD (vr 1) (vr 4)) (cst (.int 0))) argsNil))))
      (seqS (asgS 6 (opN minF (argsCons (op2 ixD (op2 ixD (vr 0) (vr 3)) (cst (.int 1))) (argsCons (op2 ixD (op2 ixD (vr 1) (vr 4)) (cst (.int 1))) argsNil))))
      (seqS (ifS (tstE (op2 leD (vr 5) (vr 6))) (exprS (apE 2 (tupE (argsCons (vr 5) (argsCons (vr 6) argsNil))))) nxS)
      (ifS (tstE (op2 ltD (op2 ixD (op2 ixD (vr 0) (vr 3)) (cst (.int 1))) (op2 ixD (op2 ixD (vr 1) (vr 4)) (cst (.int 1))))) (augS 3 addI (cst (.int 1))) (augS 4 addI (cst (.int 1))))))))
      (retS (opN tupleF (argsCons (vr 2) argsNil))))))
def F_shared_by : Fd := fdN 2 5 d_shared_by
def d_lot_meet : SM Fl := (seqS (asgS 2 (callE F_pairs_of (argsCons (vr 0) argsNil)))
      (seqS (asgS 3 (callE F_other_pairs_of (argsCons (vr 1) argsNil)))
      (retS (callE F_shared_by (argsCons (callE F_joined_up (argsCons (vr 2) argsNil)) (argsCons (callE F_joined_up (argsCons (vr 3) argsNil)) argsNil))))))
def F_lot_meet : Fd := fdN 2 2 d_lot_meet
def d_lot_union : SM Fl := (seqS (asgS 2 (callE F_pairs_of (argsCons (vr 0) argsNil)))
      (seqS (asgS 3 (callE F_other_pairs_of (argsCons (vr 1) argsNil)))
      (retS (callE F_joined_up (argsCons (op2 addD (vr 2) (vr 3)) argsNil)))))
def F_lot_union : Fd := fdN 2 2 d_lot_union
def d__law_pair : SM Fl := (seqS (asgS 7 (callE F__law_blocks (argsCons (callE F__law_least_form (argsCons (op2 addD (vr 3) (vr 4)) argsNil)) (argsCons (vr 5) (argsCons (vr 6) argsNil)))))
      (seqS (asgS 8 (callE F__law_blocks (argsCons (callE F__law_least_form (argsCons (lcE [9] (seqE (vr 3)) (.one 9) (tstE (op2 (inD false) (vr 9) (vr 4))) (vr 9)) argsNil)) (argsCons (vr 5) (argsCons (vr 6) argsNil)))))
      (seqS (ifS (notT (tstE (callE F__law_just (argsCons (callE F_lot_union (argsCons (callE F__law_as (argsCons (vr 0) (argsCons (vr 2) argsNil))) (argsCons (callE F__law_as (argsCons (vr 1) (argsCons (op2 subD (cst (.int 3)) (vr 2)) argsNil))) argsNil))) (argsCons (vr 7) argsNil))))) (retS (cst (.bool false))) nxS)
      (seqS (ifS (notT (tstE (callE F__law_just (argsCons (callE F_lot_union (argsCons (callE F__law_as (argsCons (vr 1) (argsCons (vr 2) argsNil))) (argsCons (callE F__law_as (argsCons (vr 0) (argsCons (vr 2) argsNil))) argsNil))) (argsCons (vr 7) argsNil))))) (retS (cst (.bool false))) nxS)
      (seqS (ifS (notT (tstE (callE F__law_just (argsCons (callE F_lot_meet (argsCons (callE F__law_as (argsCons (vr 0) (argsCons (vr 2) argsNil))) (argsCons (callE F__law_as (argsCons (vr 1) (argsCons (vr 2) argsNil))) argsNil))) (argsCons (vr 8) argsNil))))) (retS (cst (.bool false))) nxS)
      (retS (callE F__law_just (argsCons (callE F_lot_meet (argsCons (callE F__law_as (argsCons (vr 1) (argsCons (op2 subD (cst (.int 3)) (vr 2)) argsNil))) (argsCons (callE F__law_as (argsCons (vr 0) (argsCons (vr 2) argsNil))) argsNil))) (argsCons (vr 8) argsNil)))))))))
def F__law_pair : Fd := fdN 7 3 d__law_pair
def d__law_tape : SM Fl := (seqS (asgS 1 (lstE argsNil))
      (seqS (forS (seqE (scrE 0 40)) (.one 2) (seqS (asgS 3 (op2 modD (opN absF (argsCons (opN intF (argsCons (vr 2) argsNil)) argsNil)) (op2 powD (cst (.int 60)) (cst (.int 15)))))
      (seqS (ifS (tstE (op2 ltD (opN intF (argsCons (vr 2) argsNil)) (cst (.int 0)))) (asgS 3 (op2 addD (op2 mulA (vr 3) (cst (.int 7))) (cst (.int 11)))) nxS)
      (forS (rngE rngF1 (argsCons (cst (.int 18)) argsNil)) (.one 4) (seqS (exprS (apE 1 (op2 modD (opN intF (argsCons (vr 3) argsNil)) (cst (.int 60)))))
      (seqS (asgS 3 (op2 divD (vr 3) (cst (.int 60))))
      (ifS (tstE (op2 eqD (vr 3) (cst (.int 0)))) bkS nxS)))))))
      (seqS (asgS 5 (opN lenF (argsCons (vr 1) argsNil)))
      (retS (lcE [6] (rngE rngF1 (argsCons (vr 5) argsNil)) (.one 6) (ret true) (op2 ixD (vr 1) (op2 subD (op2 subD (vr 5) (cst (.int 1))) (vr 6))))))))
def F__law_tape : Fd := fdN 1 6 d__law_tape
def d_cut_to : SM Fl := (seqS (asgS 3 (lstE argsNil))
      (seqS (forS (seqE (vr 0)) (.tup [4, 5]) (seqS (ifS (andT (tstE (op1 noNF (vr 1))) (tstE (op2 ltD (vr 4) (vr 1)))) (asgS 4 (vr 1)) nxS)
      (seqS (ifS (andT (tstE (op1 noNF (vr 2))) (tstE (op2 gtD (vr 5) (vr 2)))) (asgS 5 (vr 2)) nxS)
      (ifS (tstE (op2 leD (vr 4) (vr 5))) (exprS (apE 3 (tupE (argsCons (vr 4) (argsCons (vr 5) argsNil))))) nxS))))
      (retS (vr 3))))
def F_cut_to : Fd := fdN 3 3 d_cut_to
def d_lot_cut : SM Fl := (seqS (asgS 3 (callE F_pairs_of (argsCons (vr 0) argsNil)))
      (seqS (ifS (andT (tstE (op1 noNF (vr 1))) (notT (tstE (callE F_is_int (argsCons (vr 1) argsNil))))) (raiseS 2 "at" (iniD ini_BadNumber) (vr 1)) nxS)
      (seqS (ifS (andT (tstE (op1 noNF (vr 2))) (notT (tstE (callE F_is_int (argsCons (vr 2) argsNil))))) (raiseS 2 "at" (iniD ini_BadNumber) (vr 2)) nxS)
      (retS (callE F_joined_up (argsCons (callE F_cut_to (argsCons (vr 3) (argsCons (vr 1) (argsCons (vr 2) argsNil)))) argsNil))))))
def F_lot_cut : Fd := fdN 3 1 d_lot_cut
def d_lot_shift : SM Fl := (seqS (asgS 2 (callE F_pairs_of (argsCons (vr 0) argsNil)))
      (seqS (ifS (notT (tstE (callE F_is_int (argsCons (vr 1) argsNil)))) (raiseS 2 "at" (iniD ini_BadNumber) (vr 1)) nxS)
      (retS (callE F_joined_up (argsCons (lcE [3, 4] (seqE (vr 2)) (.tup [3, 4]) (ret true) (tupE (argsCons (op2 addD (vr 3) (vr 1)) (argsCons (op2 addD (vr 4) (vr 1)) argsNil)))) argsNil)))))
def F_lot_shift : Fd := fdN 2 3 d_lot_shift
def d_law : SM Fl := (seqS (asgS 1 (callE F__law_tape (argsCons (vrS 0) argsNil)))
      (seqS (asgS 2 (callB F__law_drawn (argsCons (vr 1) argsNil)))
      (seqS (asgS 3 (callB F__law_drawn (argsCons (vr 1) argsNil)))
      (seqS (asgS 4 (op2 ixD (tupE (argsCons (cst (.int 1)) (argsCons (cst (.int 1)) (argsCons (cst (.int 7)) (argsCons (op2 powD (cst (.int 10)) (cst (.int 27))) argsNil))))) (callB F__law_take (argsCons (vr 1) (argsCons (cst (.int 4)) argsNil)))))
      (seqS (asgS 5 (op2 ixD (tupE (argsCons (cst (.int 0)) (argsCons (op1 negD (cst (.int 40))) (argsCons (op2 powD (cst (.int 10)) (cst (.int 29))) argsNil)))) (callB F__law_take (argsCons (vr 1) (argsCons (cst (.int 3)) argsNil)))))
      (seqS (asgS 6 (op2 ixD (tupE (argsCons (cst (.int 3)) (argsCons (op1 negD (cst (.int 8))) (argsCons (cst (.int 0)) (argsCons (op2 powD (cst (.int 10)) (cst (.int 29))) argsNil))))) (callB F__law_take (argsCons (vr 1) (argsCons (cst (.int 4)) argsNil)))))
      (seqS (asgS 7 (callB F__law_take (argsCons (vr 1) (argsCons (cst (.int 4)) argsNil))))
      (seqS (asgS 8 (callE F__law_hours (argsCons (vr 2) argsNil)))
      (seqS (asgS 9 (callE F__law_hours (argsCons (vr 3) argsNil)))
      (seqS (asgS 10 (callE F__law_blocks (argsCons (vr 2) (argsCons (vr 4) (argsCons (vr 5) argsNil)))))
      (seqS (ifS (notT (tstE (callE F__law_alone (argsCons (vr 10) (argsCons (vr 7) (argsCons (vr 8) (argsCons (vr 4) (argsCons (vr 5) argsNil)))))))) (retS (cst (.bool false))) nxS)
      (seqS (ifS (notT (tstE (callE F__law_alone (argsCons (callE F__law_blocks (argsCons (vr 3) (argsCons (vr 4) (argsCons (vr 5) argsNil)))) (argsCons (op2 subD (cst (.int 3)) (vr 7)) (argsCons (vr 9) (argsCons (vr 4) (argsCons (vr 5) argsNil)))))))) (retS (cst (.bool false))) nxS)
      (seqS (ifS (notT (tstE (callE F__law_pair (argsCons (vr 10) (argsCons (callE F__law_blocks (argsCons (vr 3) (argsCons (vr 4) (argsCons (vr 5) argsNil)))) (argsCons (vr 7) (argsCons (vr 8) (argsCons (vr 9) (argsCons (vr 4) (argsCons (vr 5) argsNil)))))))))) (retS (cst (.bool false))) nxS)
      (seqS (asgS 11 (callE F__law_blocks (argsCons (callE F__law_least_form (argsCons (vr 8) argsNil)) (argsCons (vr 4) (argsCons (vr 5) argsNil)))))
      (seqS (ifS (notT (tstE (callE F__law_just (argsCons (callE F_lot_shift (argsCons (callE F__law_as (argsCons (vr 10) (argsCons (vr 7) argsNil))) (argsCons (vr 6) argsNil))) (argsCons (opN tupleF (argsCons (lcE [16] (seqE (vr 11)) (.one 16) (ret true) (tupE (argsCons (op2 addD (op2 ixD (vr 16) (cst (.int 0))) (vr 6)) (argsCons (op2 addD (op2 ixD (vr 16) (cst (.int 1))) (vr 6)) argsNil)))) argsNil)) argsNil))))) (retS (cst (.bool false))) nxS)
      (seqS (forS (rngE rngF1 (argsCons (cst (.int 4)) argsNil)) (.one 12) (seqS (asgS 13 (callB F__law_edge (argsCons (vr 1) (argsCons (vr 4) (argsCons (vr 5) argsNil)))))
      (seqS (asgS 14 (callB F__law_edge (argsCons (vr 1) (argsCons (vr 4) (argsCons (vr 5) argsNil)))))
      (seqS (asgS 15 (callE F__law_clip (argsCons (vr 11) (argsCons (vr 13) (argsCons (vr 14) argsNil)))))
      (ifS (notT (tstE (callE F__law_just (argsCons (callE F_lot_cut (argsCons (callE F__law_as (argsCons (vr 10) (argsCons (vr 7) argsNil))) (argsCons (vr 13) (argsCons (vr 14) argsNil)))) (argsCons (vr 15) argsNil))))) (retS (cst (.bool false))) nxS)))))
      (retS (cst (.bool true)))))))))))))))))))
def F_law : Fd := fdN 1 16 d_law
structure Bi (K : PySem.W.Frag) (mg : Str → Option Value) (cA : Nat → Addr) : Prop where
  z_abs : mg "abs" = none
  z_bool : mg "bool" = none
  z_enumerate : mg "enumerate" = none
  z_int : mg "int" = none
  z_isinstance : mg "isinstance" = none
  z_len : mg "len" = none
  z_list : mg "list" = none
  z_max : mg "max" = none
  z_min : mg "min" = none
  z_range : mg "range" = none
  z_set : mg "set" = none
  z_sorted : mg "sorted" = none
  z_str : mg "str" = none
  z_sum : mg "sum" = none
  z_tuple : mg "tuple" = none
  m_DoneError : mg "DoneError" = some (.ref (cA 1))
  m_BadNumber : mg "BadNumber" = some (.ref (cA 2))
  m_BadHours : mg "BadHours" = some (.ref (cA 3))
  errs : Errs K cA sbT 4
theorem Bi.exmL {K : PySem.W.Frag} {mg : Str → Option Value} {cA : Nat → Addr} (B : Bi K mg cA) (hs : List Hdl) (h : hs.all (fun h => h.1 < 4) = true) : ∀ h ∈ hs, ∀ k, 0 < k → k < 4 → PySem.W.exmOne K (.ref (cA k)) (cV cA h.1) = some (sbT k h.1) :=
  fun x hx k h1 h2 => B.errs.exm k h1 h2 x.1 (of_decide_eq_true (List.all_eq_true.mp h x hx))
section
variable {P : Program} {w : World} {K : PySem.W.Frag} {mg : Str → Option Value} {base : Heap} {cA : Nat → Addr}
theorem sc__law_as : FnScope ["lot", "way", "pairs", "pair"] ["lot", "way"] (defScope (topS 34)) := ⟨rfl, rfl, rfl, by decide +kernel, rfl, by decide +kernel, by decide +kernel⟩
theorem ok__law_as (B : Bi K mg cA)  {f : Addr} {fd : FuncData} (Fu : L2.Fun K "_law_as" "_law_as" (topS 34) f fd) : FnOk P w K mg base (L2.CX P w) 1 f fd ["lot", "way"] (SpD K cA 2 F__law_as) :=
  have S := sc__law_as
  fn_okN (cA := cA) (N := ["lot", "way", "pairs", "pair"]) 2 2 Fu sc__law_as rfl rfl (fun cdv A outer s H E X hX hr tk hp => by
    subst hX
    exact (ms_cons (ms_setLc (i := 2) (own := [("pair", 3)]) rfl S.nd rfl rfl (sw_true rfl rfl rfl (by decide +kernel)) (mi_seq rfl (me_var (pv 0))) (by show BlkOk ["lot", "way", "pairs", "pair"] (defScope (topS 34)) _ [("pair", 3)]; exact ⟨rfl, by decide +kernel, by decide +kernel, by decide +kernel, by decide +kernel⟩) (fun _ _ _ _ _ => (mg_name (pg_name (i := 3) S.nd rfl (by first | exact Or.inl rfl | exact Or.inr rfl)))) (fun _ _ _ _ _ => pts_nil) (fun _ _ _ _ _ => (me_var (pv 3))) tt_nil (by decide) (by decide))
      (ms_cons (ms_if (mt_op op_ge s_ge (me_var (pv 1)) me_int (nomark _)) (ms_one (ms_setLc (i := 2) (own := [("pair", 3)]) rfl S.nd rfl rfl (sw_true rfl rfl rfl (by decide +kernel)) (mi_seq rfl (me_var (pv 0))) (by show BlkOk ["lot", "way", "pairs", "pair"] (defScope (topS 34)) _ [("pair", 3)]; exact ⟨rfl, by decide +kernel, by decide +kernel, by decide +kernel, by decide +kernel⟩) (fun _ _ _ _ _ => (mg_name (pg_name (i := 3) S.nd rfl (by first | exact Or.inl rfl | exact Or.inr rfl)))) (fun _ _ _ _ _ => pts_nil) (fun _ _ _ _ _ => (me_callTy call_list_of s_list (by rfl) B.z_list (by decide +kernel) (ma_cons (me_var (pv 3)) ma_nil))) tt_nil (by decide) (by decide))) ms_nil)
      (ms_cons (ms_if (PW.pt (mw_or (mt_op (op_eqD (hu64 hr)) s_eq (me_var (pv 1)) me_int (nomark _)) (mw_or1 (mt_op (op_eqD (hu64 hr)) s_eq (me_var (pv 1)) me_int (nomark _))))) (ms_one (ms_ret (me_var (pv 2)))) ms_nil)
      (ms_one (ms_ret (me_callTy call_tuple_of s_tuple (by rfl) B.z_tuple (by decide +kernel) (ma_cons (me_var (pv 2)) ma_nil))))))))
theorem sc__law_blocks : FnScope ["lot", "size", "move", "pair"] ["lot", "size", "move"] (defScope (topS 33)) := ⟨rfl, rfl, rfl, by decide +kernel, rfl, by decide +kernel, by decide +kernel⟩
theorem ok__law_blocks (B : Bi K mg cA)  {f : Addr} {fd : FuncData} (Fu : L2.Fun K "_law_blocks" "_law_blocks" (topS 33) f fd) : FnOk P w K mg base (L2.CX P w) 1 f fd ["lot", "size", "move"] (SpD K cA 3 F__law_blocks) :=
  have S := sc__law_blocks
  fn_okN (cA := cA) (N := ["lot", "size", "move", "pair"]) 3 1 Fu sc__law_blocks rfl rfl (fun cdv A outer s H E X hX hr tk hp => by
    subst hX
    exact (ms_one (ms_ret (me_callTy call_tuple_of s_tuple (by rfl) B.z_tuple (by decide +kernel) (ma_cons (me_lc (own := [("pair", 3)]) rfl S.nd (mi_seq rfl (me_var (pv 0))) (by show BlkOk ["lot", "size", "move", "pair"] (defScope (topS 33)) _ [("pair", 3)]; exact ⟨rfl, by decide +kernel, by decide +kernel, by decide +kernel, by decide +kernel⟩) (fun _ _ _ _ _ => (mg_name (pg_name (i := 3) S.nd rfl (by first | exact Or.inl rfl | exact Or.inr rfl)))) (fun _ _ _ _ _ => pts_nil) (fun _ _ _ _ _ => (me_tup (ma_cons (me_op2 o_add s_add (me_op2 o_mulA s_mulA (me_ix ix_seq s_ix (me_var (pv 3)) me_int) (me_var (pv 1))) (me_var (pv 2))) (ma_cons (me_op2 o_add s_add (me_op2 op_sub s_sub (me_op2 o_add s_add (me_op2 o_mulA s_mulA (me_ix ix_seq s_ix (me_var (pv 3)) me_int) (me_var (pv 1))) (me_var (pv 1))) me_int) (me_var (pv 2))) ma_nil)))) tt_nil (by decide) (by decide)) ma_nil)))))
theorem sc__law_least_form : FnScope ["hours", "out", "hour", "pair"] ["hours"] (defScope (topS 29)) := ⟨rfl, rfl, rfl, by decide +kernel, rfl, by decide +kernel, by decide +kernel⟩
theorem ok__law_least_form (B : Bi K mg cA)  {f : Addr} {fd : FuncData} (Fu : L2.Fun K "_law_least_form" "_law_least_form" (topS 29) f fd) : FnOk P w K mg base (L2.CX P w) 1 f fd ["hours"] (SpD K cA 1 F__law_least_form) :=
  have S := sc__law_least_form
  fn_okN (cA := cA) (N := ["hours", "out", "hour", "pair"]) 1 3 Fu sc__law_least_form rfl rfl (fun cdv A outer s H E X hX hr tk hp => by
    subst hX
    exact (ms_cons (ms_set (i := 1) S.nd rfl (by first | exact Or.inl rfl | exact Or.inr rfl) (me_lst ma_nil))
      (ms_cons (ms_least hp rfl (mi_seq rfl (me_sset rfl rfl (by rfl) B.z_sorted (by rfl) B.z_set (ma_cons (me_var (pv 0)) ma_nil))) (pg_name (i := 2) S.nd rfl (by first | exact Or.inl rfl | exact Or.inr rfl)) (pss_cons (ps_if (PW.pt (pw_and (pt_cmpR op_gt (pe_callB call_len (by rfl) B.z_len (by decide +kernel) (pa_cons (pv 1) pa_nil)) pe_int rfl) (pw_and1 (pt_cmpR op_eq (pe_op op_add (pe_ix ix_list (pe_ix ix_list (pv 1) (pe_un un_neg pe_int) (fun _ _ => rfl)) pe_int (fun _ _ => rfl)) pe_int) (pv 2) rfl)))) (pss_cons (ps_asg (pv 2) (pg_sub (pe_ix ix_list (pv 1) (pe_un un_neg pe_int) (fun _ _ => rfl)) pe_int set_list)) pss_nil) (pss_cons (ps_expr (pe_bm PySem.F.plainAttrs_list PySem.F.slot_list_append PySem.F.type_list_append mt_append (pv 1) (pa_cons (pe_lst (pa_cons (pv 2) (pa_cons (pv 2) pa_nil))) pa_nil))) pss_nil)) pss_nil))
      (ms_one (ms_ret (me_callTy call_tuple_of s_tuple (by rfl) B.z_tuple (by decide +kernel) (ma_cons (me_lc (own := [("pair", 3)]) rfl S.nd (mi_seq rfl (me_var (pv 1))) (by show BlkOk ["hours", "out", "hour", "pair"] (defScope (topS 29)) _ [("pair", 3)]; exact ⟨rfl, by decide +kernel, by decide +kernel, by decide +kernel, by decide +kernel⟩) (fun _ _ _ _ _ => (mg_name (pg_name (i := 3) S.nd rfl (by first | exact Or.inl rfl | exact Or.inr rfl)))) (fun _ _ _ _ _ => pts_nil) (fun _ _ _ _ _ => (me_tup (ma_cons (me_ix ix_seq s_ix (me_var (pv 3)) me_int) (ma_cons (me_ix ix_seq s_ix (me_var (pv 3)) me_int) ma_nil)))) tt_nil (by decide) (by decide)) ma_nil)))))))
theorem sc__law_gaps : FnScope ["hours", "hour"] ["hours"] (defScope (topS 36)) := ⟨rfl, rfl, rfl, by decide +kernel, rfl, by decide +kernel, by decide +kernel⟩
theorem ok__law_gaps (B : Bi K mg cA) (D__law_least_form : Df P w K mg base cA "_law_least_form" 1 1 F__law_least_form) {f : Addr} {fd : FuncData} (Fu : L2.Fun K "_law_gaps" "_law_gaps" (topS 36) f fd) : FnOk P w K mg base (L2.CX P w) 2 f fd ["hours"] (SpD K cA 1 F__law_gaps) :=
  have S := sc__law_gaps
  fn_okN (cA := cA) (N := ["hours", "hour"]) 1 1 Fu sc__law_gaps rfl rfl (fun cdv A outer s H E X hX hr tk hp => by
    subst hX
    exact (ms_cons (ms_if (mt_op (op_eqD (hu64 hr)) s_eq (me_callB c_len s_len (by rfl) B.z_len (by decide +kernel) (ma_cons (me_var (pv 0)) ma_nil)) me_int (nomark _)) (ms_one (ms_ret (me_tup ma_nil))) ms_nil)
      (ms_one (ms_ret (me_callD D__law_least_form rfl (hr.mono (by decide)) (by rfl) tk (ma_cons (me_lc (own := [("hour", 1)]) rfl S.nd (mi_rng2 (by rfl) B.z_range (ma_cons (me_ix ix_seq s_ix (me_var (pv 0)) me_int) (ma_cons (me_op2 o_add s_add (me_ix ix_seq s_ix (me_var (pv 0)) (me_un un_neg s_neg me_int)) me_int) ma_nil))) (by show BlkOk ["hours", "hour"] (defScope (topS 36)) _ [("hour", 1)]; exact ⟨rfl, by decide +kernel, by decide +kernel, by decide +kernel, by decide +kernel⟩) (fun _ _ _ _ _ => (mg_name (pg_name (i := 1) S.nd rfl (by first | exact Or.inl rfl | exact Or.inr rfl)))) (fun _ _ _ _ _ => (pts_one (mt_op op_notIn_seq s_in (me_var (pv 1)) (me_var (pv 0)) (by rfl)))) (fun _ _ _ _ _ => (me_var (pv 1))) tt_one (by decide) (by decide)) ma_nil))))))
theorem sc__law_just : FnScope ["told", "due", "todo", "turn", "one", "two", "at"] ["told", "due"] (defScope (topS 31)) := ⟨rfl, rfl, rfl, by decide +kernel, rfl, by decide +kernel, by decide +kernel⟩
theorem ok__law_just (B : Bi K mg cA)  {f : Addr} {fd : FuncData} (Fu : L2.Fun K "_law_just" "_law_just" (topS 31) f fd) : FnOk P w K mg base (L2.CX P w) 1 f fd ["told", "due"] (SpD K cA 2 F__law_just) :=
  have S := sc__law_just
  fn_okN (cA := cA) (N := ["told", "due", "todo", "turn", "one", "two", "at"]) 2 5 Fu sc__law_just rfl rfl (fun cdv A outer s H E X hX hr tk hp => by
    subst hX
    exact (ms_cons (ms_set (i := 2) S.nd rfl (by first | exact Or.inl rfl | exact Or.inr rfl) (me_lst (ma_cons (me_tup (ma_cons (me_var (pv 0)) (ma_cons (me_var (pv 1)) ma_nil))) ma_nil)))
      (ms_cons (ms_for hp rfl (mi_rng1 (by rfl) B.z_range (ma_cons me_int ma_nil)) (mg_name (pg_name (i := 3) S.nd rfl (by first | exact Or.inl rfl | exact Or.inr rfl))) (ms_cons (ms_if (mt_op (op_eqD (hu64 hr)) s_eq (me_callB c_len s_len (by rfl) B.z_len (by decide +kernel) (ma_cons (me_var (pv 2)) ma_nil)) me_int (nomark _)) (ms_one ms_break) ms_nil)
      (ms_cons (ms_asgT (me_pop (pv 2)) (mg_tup (pg_tup rfl (pgs_cons (pg_name (i := 4) S.nd rfl (by first | exact Or.inl rfl | exact Or.inr rfl)) (pgs_cons (pg_name (i := 5) S.nd rfl (by first | exact Or.inl rfl | exact Or.inr rfl)) pgs_nil))) rfl))
      (ms_one (ms_if (mt_val (me_isi1 (t := .tuple) (pe_callB call_isi (by rfl) B.z_isinstance (by decide +kernel) (pa_cons (me_var (pv 5)) (pa_cons (pe_bltn (by rfl) B.z_tuple (by decide +kernel) rfl) pa_nil))))) (ms_cons (ms_if (PW.pt (mw_or (mt_not (mt_val (me_isi1 (t := .tuple) (pe_callB call_isi (by rfl) B.z_isinstance (by decide +kernel) (pa_cons (me_var (pv 4)) (pa_cons (pe_bltn (by rfl) B.z_tuple (by decide +kernel) rfl) pa_nil)))))) (mw_or1 (mt_op (op_neD (hu64 hr)) s_ne (me_callB c_len s_len (by rfl) B.z_len (by decide +kernel) (ma_cons (me_var (pv 4)) ma_nil)) (me_callB c_len s_len (by rfl) B.z_len (by decide +kernel) (ma_cons (me_var (pv 5)) ma_nil)) (nomark _))))) (ms_one (ms_ret me_bl)) ms_nil)
      (ms_one (ms_for hp rfl (mi_rng1 (by rfl) B.z_range (ma_cons (me_callB c_len s_len (by rfl) B.z_len (by decide +kernel) (ma_cons (me_var (pv 5)) ma_nil)) ma_nil)) (mg_name (pg_name (i := 6) S.nd rfl (by first | exact Or.inl rfl | exact Or.inr rfl))) (ms_one (ms_expr (me_app (pv 2) (me_tup (ma_cons (me_ix ix_seq s_ix (me_var (pv 4)) (me_var (pv 6))) (ma_cons (me_ix ix_seq s_ix (me_var (pv 5)) (me_var (pv 6))) ma_nil))))))))) (ms_one (ms_if (PW.pt (mw_or (mt_isN (me_var (pv 5))) (mw_or (mt_op op_isB s_isB (me_var (pv 5)) me_bl (nomark _)) (mw_or1 (mt_op op_isB s_isB (me_var (pv 5)) me_bl (nomark _)))))) (ms_one (ms_if (PW.pt (mw_or (mt_op (op_neD (hu64 hr)) s_ne (me_isN (me_var (pv 4))) (me_isN (me_var (pv 5))) (nomark _)) (mw_or (mt_op (op_neD (hu64 hr)) s_ne (me_cmp op_isB s_isB (me_var (pv 4)) me_bl (nomark _)) (me_cmp op_isB s_isB (me_var (pv 5)) me_bl (nomark _)) (nomark _)) (mw_or1 (mt_op (op_neD (hu64 hr)) s_ne (me_cmp op_isB s_isB (me_var (pv 4)) me_bl (nomark _)) (me_cmp op_isB s_isB (me_var (pv 5)) me_bl (nomark _)) (nomark _)))))) (ms_one (ms_ret me_bl)) ms_nil)) (ms_one (ms_if (mt_val (me_isi1 (t := .int) (pe_callB call_isi (by rfl) B.z_isinstance (by decide +kernel) (pa_cons (me_var (pv 5)) (pa_cons (pe_bltn (by rfl) B.z_int (by decide +kernel) rfl) pa_nil))))) (ms_one (ms_if (PW.pt (mw_or (mt_val (me_isi1 (t := .bool) (pe_callB call_isi (by rfl) B.z_isinstance (by decide +kernel) (pa_cons (me_var (pv 4)) (pa_cons (pe_bltn (by rfl) B.z_bool (by decide +kernel) rfl) pa_nil))))) (mw_or (mt_not (mt_val (me_isi1 (t := .int) (pe_callB call_isi (by rfl) B.z_isinstance (by decide +kernel) (pa_cons (me_var (pv 4)) (pa_cons (pe_bltn (by rfl) B.z_int (by decide +kernel) rfl) pa_nil)))))) (mw_or1 (mt_op (op_neD (hu64 hr)) s_ne (me_var (pv 4)) (me_var (pv 5)) (nomark _)))))) (ms_one (ms_ret me_bl)) ms_nil)) (ms_one (ms_if (PW.pt (mw_or (mt_not (mt_val (me_isi1 (t := .str) (pe_callB call_isi (by rfl) B.z_isinstance (by decide +kernel) (pa_cons (me_var (pv 4)) (pa_cons (pe_bltn (by rfl) B.z_str (by decide +kernel) rfl) pa_nil)))))) (mw_or1 (mt_op (op_neD (hu64 hr)) s_ne (me_var (pv 4)) (me_var (pv 5)) (nomark _))))) (ms_one (ms_ret me_bl)) ms_nil)))))))))))
      (ms_one (ms_ret (me_cmp (op_eqD (hu64 hr)) s_eq (me_callB c_len s_len (by rfl) B.z_len (by decide +kernel) (ma_cons (me_var (pv 2)) ma_nil)) me_int (nomark _)))))))
theorem sc_joined_up : FnScope ["pairs", "told", "first", "last"] ["pairs"] (defScope (topS 12)) := ⟨rfl, rfl, rfl, by decide +kernel, rfl, by decide +kernel, by decide +kernel⟩
theorem ok_joined_up (B : Bi K mg cA)  {f : Addr} {fd : FuncData} (Fu : L2.Fun K "joined_up" "joined_up" (topS 12) f fd) : FnOk P w K mg base (L2.CX P w) 1 f fd ["pairs"] (SpD K cA 1 F_joined_up) :=
  have S := sc_joined_up
  fn_okN (cA := cA) (N := ["pairs", "told", "first", "last"]) 1 3 Fu sc_joined_up rfl rfl (fun cdv A outer s H E X hX hr tk hp => by
    subst hX
    exact (ms_cons (ms_set (i := 1) S.nd rfl (by first | exact Or.inl rfl | exact Or.inr rfl) (me_lst ma_nil))
      (ms_cons (ms_for hp rfl (mi_seq rfl (me_callB c_sorA s_sorA (by rfl) B.z_sorted (by decide +kernel) (ma_cons (me_var (pv 0)) ma_nil))) (mg_tup (pg_tup rfl (pgs_cons (pg_name (i := 2) S.nd rfl (by first | exact Or.inl rfl | exact Or.inr rfl)) (pgs_cons (pg_name (i := 3) S.nd rfl (by first | exact Or.inl rfl | exact Or.inr rfl)) pgs_nil))) rfl) (ms_one (ms_if (PW.pt (mw_and (mt_tru rfl (me_var (pv 1))) (mw_and1 (mt_op op_le s_le (me_var (pv 2)) (me_op2 o_add s_add (me_ix ix_seq s_ix (me_ix ix_seq s_ix (me_var (pv 1)) (me_un un_neg s_neg me_int)) me_int) me_int) (nomark _))))) (ms_one (ms_ix (ps_asg (me_tup (ma_cons (me_ix ix_seq s_ix (me_ix ix_seq s_ix (me_var (pv 1)) (me_un un_neg s_neg me_int)) me_int) (ma_cons (me_callB (call_max2 rfl) s_max (by rfl) B.z_max (by decide +kernel) (ma_cons (me_var (pv 3)) (ma_cons (me_ix ix_seq s_ix (me_ix ix_seq s_ix (me_var (pv 1)) (me_un un_neg s_neg me_int)) me_int) ma_nil))) ma_nil))) (pg_sub (pv 1) (me_un un_neg s_neg me_int) set_list)))) (ms_one (ms_expr (me_app (pv 1) (me_tup (ma_cons (me_var (pv 2)) (ma_cons (me_var (pv 3)) ma_nil)))))))))
      (ms_one (ms_ret (me_callTy call_tuple_of s_tuple (by rfl) B.z_tuple (by decide +kernel) (ma_cons (me_var (pv 1)) ma_nil)))))))
theorem sc_tupled : FnScope ["thing", "inner"] ["thing"] (defScope (topS 1)) := ⟨rfl, rfl, rfl, by decide +kernel, rfl, by decide +kernel, by decide +kernel⟩
theorem ok_tupled (B : Bi K mg cA)  {f : Addr} {fd : FuncData} (m : Nat) (D_self : Df P w K mg base cA "tupled" 1 m (F_tupled m)) (Fu : L2.Fun K "tupled" "tupled" (topS 1) f fd) : FnOk P w K mg base (L2.CX P w) (m + 1) f fd ["thing"] (SpD K cA 1 (F_tupled (m + 1))) :=
  have S := sc_tupled
  fn_okN (cA := cA) (N := ["thing", "inner"]) 1 1 Fu sc_tupled rfl rfl (fun cdv A outer s H E X hX hr tk hp => by
    subst hX
    exact (ms_cons (ms_if (mt_val (me_isiN (ts := [.list, .tuple]) (by decide) (pe_callB call_isiT (by rfl) B.z_isinstance (by decide +kernel) (pa_cons (me_var (pv 0)) (pa_cons (pe_tup (pa_cons (pe_bltn (by rfl) B.z_list (by decide +kernel) rfl) (pa_cons (pe_bltn (by rfl) B.z_tuple (by decide +kernel) rfl) pa_nil))) pa_nil))))) (ms_one (ms_ret (me_callTy call_tuple_of s_tuple (by rfl) B.z_tuple (by decide +kernel) (ma_cons (me_lc (own := [("inner", 1)]) rfl S.nd (mi_seq rfl (me_var (pv 0))) (by show BlkOk ["thing", "inner"] (defScope (topS 1)) _ [("inner", 1)]; exact ⟨rfl, by decide +kernel, by decide +kernel, by decide +kernel, by decide +kernel⟩) (fun _ _ _ _ _ => (mg_name (pg_name (i := 1) S.nd rfl (by first | exact Or.inl rfl | exact Or.inr rfl)))) (fun _ _ _ _ _ => pts_nil) (fun _ _ _ _ _ => (me_callD D_self rfl (hr.mono (Nat.le_refl _)) (by rfl) takes0 (ma_cons (me_var (pv 1)) ma_nil))) tt_nil (by decide) (by decide)) ma_nil)))) ms_nil)
      (ms_one (ms_ret (me_var (pv 0))))))
theorem ok_BadHours (B : Bi K mg cA) (D_tupled : Df P w K mg base cA "tupled" 1 6 (F_tupled 6)) {f : Addr} {fd : FuncData} (Fu : L2.Fun K "__init__" "BadHours.__init__" (meth (topS 4) 0) f fd) (S : FnScope ["self", "at"] ["self", "at"] (defScope (meth (topS 4) 0))) : FnOk P w K mg base (L2.CX P w) 7 f fd ["self", "at"] (SpI K (cA 3) "at" ini_BadHours) :=
  init_ok (cA := cA) (N := ["self", "at"]) Fu S rfl rfl rfl (fun cdv A outer s H E X hX hr tk hp => by
    subst hX
    exact ⟨pv 0, (me_callD D_tupled rfl (hr.mono (by decide)) (by rfl) tk (ma_cons (me_var (pv 1)) ma_nil)), rfl⟩)
theorem sc_is_int : FnScope ["x"] ["x"] (defScope (topS 6)) := ⟨rfl, rfl, rfl, by decide +kernel, rfl, by decide +kernel, by decide +kernel⟩
theorem ok_is_int (B : Bi K mg cA)  {f : Addr} {fd : FuncData} (Fu : L2.Fun K "is_int" "is_int" (topS 6) f fd) : FnOk P w K mg base (L2.CX P w) 1 f fd ["x"] (SpD K cA 1 F_is_int) :=
  have S := sc_is_int
  fn_okN (cA := cA) (N := ["x"]) 1 0 Fu sc_is_int rfl rfl (fun cdv A outer s H E X hX hr tk hp => by
    subst hX
    exact (ms_one (ms_ret (me_and (me_isi1 (t := .int) (pe_callB call_isi (by rfl) B.z_isinstance (by decide +kernel) (pa_cons (me_var (pv 0)) (pa_cons (pe_bltn (by rfl) B.z_int (by decide +kernel) rfl) pa_nil)))) (me_one (me_not (me_isi1 (t := .bool) (pe_callB call_isi (by rfl) B.z_isinstance (by decide +kernel) (pa_cons (me_var (pv 0)) (pa_cons (pe_bltn (by rfl) B.z_bool (by decide +kernel) rfl) pa_nil))))))))))
theorem sc_is_stretch : FnScope ["entry"] ["entry"] (defScope (topS 8)) := ⟨rfl, rfl, rfl, by decide +kernel, rfl, by decide +kernel, by decide +kernel⟩
theorem ok_is_stretch (B : Bi K mg cA) (D_is_int : Df P w K mg base cA "is_int" 1 1 F_is_int) {f : Addr} {fd : FuncData} (Fu : L2.Fun K "is_stretch" "is_stretch" (topS 8) f fd) : FnOk P w K mg base (L2.CX P w) 2 f fd ["entry"] (SpD K cA 1 F_is_stretch) :=
  have S := sc_is_stretch
  fn_okN (cA := cA) (N := ["entry"]) 1 0 Fu sc_is_stretch rfl rfl (fun cdv A outer s H E X hX hr tk hp => by
    subst hX
    exact (ms_cons (ms_if (mt_not (mt_val (me_isiN (ts := [.tuple, .list]) (by decide) (pe_callB call_isiT (by rfl) B.z_isinstance (by decide +kernel) (pa_cons (me_var (pv 0)) (pa_cons (pe_tup (pa_cons (pe_bltn (by rfl) B.z_tuple (by decide +kernel) rfl) (pa_cons (pe_bltn (by rfl) B.z_list (by decide +kernel) rfl) pa_nil))) pa_nil)))))) (ms_one (ms_ret me_bl)) ms_nil)
      (ms_cons (ms_if (mt_op (op_neD (hu64 hr)) s_ne (me_callB c_len s_len (by rfl) B.z_len (by decide +kernel) (ma_cons (me_var (pv 0)) ma_nil)) me_int (nomark _)) (ms_one (ms_ret me_bl)) ms_nil)
      (ms_cons (ms_if (PW.pt (mw_or (mt_not (mt_val (me_callD D_is_int rfl (hr.mono (by decide)) (by rfl) tk (ma_cons (me_ix ix_seq s_ix (me_var (pv 0)) me_int) ma_nil)))) (mw_or1 (mt_not (mt_val (me_callD D_is_int rfl (hr.mono (by decide)) (by rfl) tk (ma_cons (me_ix ix_seq s_ix (me_var (pv 0)) me_int) ma_nil))))))) (ms_one (ms_ret me_bl)) ms_nil)
      (ms_one (ms_ret (me_cmp op_le s_le (me_ix ix_seq s_ix (me_var (pv 0)) me_int) (me_ix ix_seq s_ix (me_var (pv 0)) me_int) (nomark _))))))))
theorem sc_lot_fault : FnScope ["lot", "at", "entry"] ["lot"] (defScope (topS 9)) := ⟨rfl, rfl, rfl, by decide +kernel, rfl, by decide +kernel, by decide +kernel⟩
theorem ok_lot_fault (B : Bi K mg cA) (D_is_stretch : Df P w K mg base cA "is_stretch" 1 2 F_is_stretch) {f : Addr} {fd : FuncData} (Fu : L2.Fun K "lot_fault" "lot_fault" (topS 9) f fd) : FnOk P w K mg base (L2.CX P w) 3 f fd ["lot"] (SpD K cA 1 F_lot_fault) :=
  have S := sc_lot_fault
  fn_okN (cA := cA) (N := ["lot", "at", "entry"]) 1 2 Fu sc_lot_fault rfl rfl (fun cdv A outer s H E X hX hr tk hp => by
    subst hX
    exact (ms_cons (ms_if (mt_not (mt_val (me_isiN (ts := [.tuple, .list]) (by decide) (pe_callB call_isiT (by rfl) B.z_isinstance (by decide +kernel) (pa_cons (me_var (pv 0)) (pa_cons (pe_tup (pa_cons (pe_bltn (by rfl) B.z_tuple (by decide +kernel) rfl) (pa_cons (pe_bltn (by rfl) B.z_list (by decide +kernel) rfl) pa_nil))) pa_nil)))))) (ms_one (ms_ret (me_un un_neg s_neg me_int))) ms_nil)
      (ms_cons (ms_for hp rfl (mi_enum rfl (by rfl) B.z_enumerate (me_var (pv 0))) (mg_tup (pg_tup rfl (pgs_cons (pg_name (i := 1) S.nd rfl (by first | exact Or.inl rfl | exact Or.inr rfl)) (pgs_cons (pg_name (i := 2) S.nd rfl (by first | exact Or.inl rfl | exact Or.inr rfl)) pgs_nil))) rfl) (ms_one (ms_if (mt_not (mt_val (me_callD D_is_stretch rfl (hr.mono (by decide)) (by rfl) tk (ma_cons (me_var (pv 2)) ma_nil)))) (ms_one (ms_ret (me_var (pv 1)))) ms_nil)))
      (ms_one (ms_ret me_non)))))
theorem sc_pairs_of : FnScope ["lot", "fault", "entry"] ["lot"] (defScope (topS 10)) := ⟨rfl, rfl, rfl, by decide +kernel, rfl, by decide +kernel, by decide +kernel⟩
theorem ok_pairs_of (B : Bi K mg cA) (D_lot_fault : Df P w K mg base cA "lot_fault" 1 3 F_lot_fault) (R_BadHours : Rz P w K mg base cA "BadHours" 3 "at" ini_BadHours 7) {f : Addr} {fd : FuncData} (Fu : L2.Fun K "pairs_of" "pairs_of" (topS 10) f fd) : FnOk P w K mg base (L2.CX P w) 9 f fd ["lot"] (SpD K cA 1 F_pairs_of) :=
  have S := sc_pairs_of
  fn_okN (cA := cA) (N := ["lot", "fault", "entry"]) 1 2 Fu sc_pairs_of rfl rfl (fun cdv A outer s H E X hX hr tk hp => by
    subst hX
    exact (ms_cons (ms_set (i := 1) S.nd rfl (by first | exact Or.inl rfl | exact Or.inr rfl) (me_callD D_lot_fault rfl (hr.mono (by decide)) (by rfl) tk (ma_cons (me_var (pv 0)) ma_nil)))
      (ms_cons (ms_if (mt_noN (me_var (pv 1))) (ms_one (ms_raiseD R_BadHours rfl (hr.mono (by decide)) tk rfl (by rfl) (me_var (pv 1)))) ms_nil)
      (ms_one (ms_ret (me_lc (own := [("entry", 2)]) rfl S.nd (mi_seq rfl (me_var (pv 0))) (by show BlkOk ["lot", "fault", "entry"] (defScope (topS 10)) _ [("entry", 2)]; exact ⟨rfl, by decide +kernel, by decide +kernel, by decide +kernel, by decide +kernel⟩) (fun _ _ _ _ _ => (mg_name (pg_name (i := 2) S.nd rfl (by first | exact Or.inl rfl | exact Or.inr rfl)))) (fun _ _ _ _ _ => pts_nil) (fun _ _ _ _ _ => (me_tup (ma_cons (me_ix ix_seq s_ix (me_var (pv 2)) me_int) (ma_cons (me_ix ix_seq s_ix (me_var (pv 2)) me_int) ma_nil)))) tt_nil (by decide) (by decide)))))))
theorem sc_first_hour : FnScope ["lot", "least"] ["lot"] (defScope (topS 18)) := ⟨rfl, rfl, rfl, by decide +kernel, rfl, by decide +kernel, by decide +kernel⟩
theorem ok_first_hour (B : Bi K mg cA) (D_joined_up : Df P w K mg base cA "joined_up" 1 1 F_joined_up) (D_pairs_of : Df P w K mg base cA "pairs_of" 1 9 F_pairs_of) {f : Addr} {fd : FuncData} (Fu : L2.Fun K "first_hour" "first_hour" (topS 18) f fd) : FnOk P w K mg base (L2.CX P w) 10 f fd ["lot"] (SpD K cA 1 F_first_hour) :=
  have S := sc_first_hour
  fn_okN (cA := cA) (N := ["lot", "least"]) 1 1 Fu sc_first_hour rfl rfl (fun cdv A outer s H E X hX hr tk hp => by
    subst hX
    exact (ms_cons (ms_set (i := 1) S.nd rfl (by first | exact Or.inl rfl | exact Or.inr rfl) (me_callD D_joined_up rfl (hr.mono (by decide)) (by rfl) tk (ma_cons (me_callD D_pairs_of rfl (hr.mono (by decide)) (by rfl) tk (ma_cons (me_var (pv 0)) ma_nil)) ma_nil)))
      (ms_cons (ms_if (mt_not (mt_tru rfl (me_var (pv 1)))) (ms_one (ms_ret me_non)) ms_nil)
      (ms_one (ms_ret (me_ix ix_seq s_ix (me_ix ix_seq s_ix (me_var (pv 1)) me_int) me_int))))))
theorem ok_BadNumber (B : Bi K mg cA) (D_tupled : Df P w K mg base cA "tupled" 1 6 (F_tupled 6)) {f : Addr} {fd : FuncData} (Fu : L2.Fun K "__init__" "BadNumber.__init__" (meth (topS 3) 0) f fd) (S : FnScope ["self", "at"] ["self", "at"] (defScope (meth (topS 3) 0))) : FnOk P w K mg base (L2.CX P w) 7 f fd ["self", "at"] (SpI K (cA 2) "at" ini_BadNumber) :=
  init_ok (cA := cA) (N := ["self", "at"]) Fu S rfl rfl rfl (fun cdv A outer s H E X hX hr tk hp => by
    subst hX
    exact ⟨pv 0, (me_callD D_tupled rfl (hr.mono (by decide)) (by rfl) tk (ma_cons (me_var (pv 1)) ma_nil)), rfl⟩)
theorem sc_has_hour : FnScope ["lot", "h", "pairs", "first", "last"] ["lot", "h"] (defScope (topS 16)) := ⟨rfl, rfl, rfl, by decide +kernel, rfl, by decide +kernel, by decide +kernel⟩
theorem ok_has_hour (B : Bi K mg cA) (D_is_int : Df P w K mg base cA "is_int" 1 1 F_is_int) (D_pairs_of : Df P w K mg base cA "pairs_of" 1 9 F_pairs_of) (R_BadNumber : Rz P w K mg base cA "BadNumber" 2 "at" ini_BadNumber 7) {f : Addr} {fd : FuncData} (Fu : L2.Fun K "has_hour" "has_hour" (topS 16) f fd) : FnOk P w K mg base (L2.CX P w) 10 f fd ["lot", "h"] (SpD K cA 2 F_has_hour) :=
  have S := sc_has_hour
  fn_okN (cA := cA) (N := ["lot", "h", "pairs", "first", "last"]) 2 3 Fu sc_has_hour rfl rfl (fun cdv A outer s H E X hX hr tk hp => by
    subst hX
    exact (ms_cons (ms_set (i := 2) S.nd rfl (by first | exact Or.inl rfl | exact Or.inr rfl) (me_callD D_pairs_of rfl (hr.mono (by decide)) (by rfl) tk (ma_cons (me_var (pv 0)) ma_nil)))
      (ms_cons (ms_if (mt_not (mt_val (me_callD D_is_int rfl (hr.mono (by decide)) (by rfl) tk (ma_cons (me_var (pv 1)) ma_nil)))) (ms_one (ms_raiseD R_BadNumber rfl (hr.mono (by decide)) tk rfl (by rfl) (me_var (pv 1)))) ms_nil)
      (ms_cons (ms_for hp rfl (mi_seq rfl (me_var (pv 2))) (mg_tup (pg_tup rfl (pgs_cons (pg_name (i := 3) S.nd rfl (by first | exact Or.inl rfl | exact Or.inr rfl)) (pgs_cons (pg_name (i := 4) S.nd rfl (by first | exact Or.inl rfl | exact Or.inr rfl)) pgs_nil))) rfl) (ms_one (ms_if (mt_ch op_le op_le s_le s_le (me_var (pv 3)) (me_var (pv 1)) (me_var (pv 4))) (ms_one (ms_ret me_bl)) ms_nil)))
      (ms_one (ms_ret me_bl))))))
theorem sc_last_hour : FnScope ["lot", "least"] ["lot"] (defScope (topS 19)) := ⟨rfl, rfl, rfl, by decide +kernel, rfl, by decide +kernel, by decide +kernel⟩
theorem ok_last_hour (B : Bi K mg cA) (D_joined_up : Df P w K mg base cA "joined_up" 1 1 F_joined_up) (D_pairs_of : Df P w K mg base cA "pairs_of" 1 9 F_pairs_of) {f : Addr} {fd : FuncData} (Fu : L2.Fun K "last_hour" "last_hour" (topS 19) f fd) : FnOk P w K mg base (L2.CX P w) 10 f fd ["lot"] (SpD K cA 1 F_last_hour) :=
  have S := sc_last_hour
  fn_okN (cA := cA) (N := ["lot", "least"]) 1 1 Fu sc_last_hour rfl rfl (fun cdv A outer s H E X hX hr tk hp => by
    subst hX
    exact (ms_cons (ms_set (i := 1) S.nd rfl (by first | exact Or.inl rfl | exact Or.inr rfl) (me_callD D_joined_up rfl (hr.mono (by decide)) (by rfl) tk (ma_cons (me_callD D_pairs_of rfl (hr.mono (by decide)) (by rfl) tk (ma_cons (me_var (pv 0)) ma_nil)) ma_nil)))
      (ms_cons (ms_if (mt_not (mt_tru rfl (me_var (pv 1)))) (ms_one (ms_ret me_non)) ms_nil)
      (ms_one (ms_ret (me_ix ix_seq s_ix (me_ix ix_seq s_ix (me_var (pv 1)) (me_un un_neg s_neg me_int)) me_int))))))
theorem sc_least_form : FnScope ["lot"] ["lot"] (defScope (topS 15)) := ⟨rfl, rfl, rfl, by decide +kernel, rfl, by decide +kernel, by decide +kernel⟩
theorem ok_least_form (B : Bi K mg cA) (D_joined_up : Df P w K mg base cA "joined_up" 1 1 F_joined_up) (D_pairs_of : Df P w K mg base cA "pairs_of" 1 9 F_pairs_of) {f : Addr} {fd : FuncData} (Fu : L2.Fun K "least_form" "least_form" (topS 15) f fd) : FnOk P w K mg base (L2.CX P w) 10 f fd ["lot"] (SpD K cA 1 F_least_form) :=
  have S := sc_least_form
  fn_okN (cA := cA) (N := ["lot"]) 1 0 Fu sc_least_form rfl rfl (fun cdv A outer s H E X hX hr tk hp => by
    subst hX
    exact (ms_one (ms_ret (me_callD D_joined_up rfl (hr.mono (by decide)) (by rfl) tk (ma_cons (me_callD D_pairs_of rfl (hr.mono (by decide)) (by rfl) tk (ma_cons (me_var (pv 0)) ma_nil)) ma_nil)))))
theorem sc_lot_count : FnScope ["lot", "first", "last"] ["lot"] (defScope (topS 17)) := ⟨rfl, rfl, rfl, by decide +kernel, rfl, by decide +kernel, by decide +kernel⟩
theorem ok_lot_count (B : Bi K mg cA) (D_joined_up : Df P w K mg base cA "joined_up" 1 1 F_joined_up) (D_pairs_of : Df P w K mg base cA "pairs_of" 1 9 F_pairs_of) {f : Addr} {fd : FuncData} (Fu : L2.Fun K "lot_count" "lot_count" (topS 17) f fd) : FnOk P w K mg base (L2.CX P w) 10 f fd ["lot"] (SpD K cA 1 F_lot_count) :=
  have S := sc_lot_count
  fn_okN (cA := cA) (N := ["lot", "first", "last"]) 1 2 Fu sc_lot_count rfl rfl (fun cdv A outer s H E X hX hr tk hp => by
    subst hX
    exact (ms_one (ms_ret (me_callB (c_sumA rfl) s_sumA (by rfl) B.z_sum (by decide +kernel) (ma_cons (me_lc (own := [("first", 1), ("last", 2)]) rfl S.nd (mi_seq rfl (me_callD D_joined_up rfl (hr.mono (by decide)) (by rfl) tk (ma_cons (me_callD D_pairs_of rfl (hr.mono (by decide)) (by rfl) tk (ma_cons (me_var (pv 0)) ma_nil)) ma_nil))) (by show BlkOk ["lot", "first", "last"] (defScope (topS 17)) _ [("first", 1), ("last", 2)]; exact ⟨rfl, by decide +kernel, by decide +kernel, by decide +kernel, by decide +kernel⟩) (fun _ _ _ _ _ => (mg_tup (pg_tup rfl (pgs_cons (pg_name (i := 1) S.nd rfl (by first | exact Or.inl rfl | exact Or.inr rfl)) (pgs_cons (pg_name (i := 2) S.nd rfl (by first | exact Or.inl rfl | exact Or.inr rfl)) pgs_nil))) rfl)) (fun _ _ _ _ _ => pts_nil) (fun _ _ _ _ _ => (me_op2 o_add s_add (me_op2 op_sub s_sub (me_var (pv 2)) (me_var (pv 1))) me_int)) tt_nil (by decide) (by decide)) ma_nil)))))
theorem sc_lot_holes : FnScope ["lot", "least", "at"] ["lot"] (defScope (topS 24)) := ⟨rfl, rfl, rfl, by decide +kernel, rfl, by decide +kernel, by decide +kernel⟩
theorem ok_lot_holes (B : Bi K mg cA) (D_joined_up : Df P w K mg base cA "joined_up" 1 1 F_joined_up) (D_pairs_of : Df P w K mg base cA "pairs_of" 1 9 F_pairs_of) {f : Addr} {fd : FuncData} (Fu : L2.Fun K "lot_holes" "lot_holes" (topS 24) f fd) : FnOk P w K mg base (L2.CX P w) 10 f fd ["lot"] (SpD K cA 1 F_lot_holes) :=
  have S := sc_lot_holes
  fn_okN (cA := cA) (N := ["lot", "least", "at"]) 1 2 Fu sc_lot_holes rfl rfl (fun cdv A outer s H E X hX hr tk hp => by
    subst hX
    exact (ms_cons (ms_set (i := 1) S.nd rfl (by first | exact Or.inl rfl | exact Or.inr rfl) (me_callD D_joined_up rfl (hr.mono (by decide)) (by rfl) tk (ma_cons (me_callD D_pairs_of rfl (hr.mono (by decide)) (by rfl) tk (ma_cons (me_var (pv 0)) ma_nil)) ma_nil)))
      (ms_one (ms_ret (me_callTy call_tuple_of s_tuple (by rfl) B.z_tuple (by decide +kernel) (ma_cons (me_lc (own := [("at", 2)]) rfl S.nd (mi_rng1 (by rfl) B.z_range (ma_cons (me_op2 op_sub s_sub (me_callB c_len s_len (by rfl) B.z_len (by decide +kernel) (ma_cons (me_var (pv 1)) ma_nil)) me_int) ma_nil)) (by show BlkOk ["lot", "least", "at"] (defScope (topS 24)) _ [("at", 2)]; exact ⟨rfl, by decide +kernel, by decide +kernel, by decide +kernel, by decide +kernel⟩) (fun _ _ _ _ _ => (mg_name (pg_name (i := 2) S.nd rfl (by first | exact Or.inl rfl | exact Or.inr rfl)))) (fun _ _ _ _ _ => pts_nil) (fun _ _ _ _ _ => (me_tup (ma_cons (me_op2 o_add s_add (me_ix ix_seq s_ix (me_ix ix_seq s_ix (me_var (pv 1)) (me_var (pv 2))) me_int) me_int) (ma_cons (me_op2 op_sub s_sub (me_ix ix_seq s_ix (me_ix ix_seq s_ix (me_var (pv 1)) (me_op2 o_add s_add (me_var (pv 2)) me_int)) me_int) me_int) ma_nil)))) tt_nil (by decide) (by decide)) ma_nil))))))
theorem sc__law_alone : FnScope ["great", "way", "hours", "size", "move", "due", "gaps", "first", "last", "handed", "hour", "inside"] ["great", "way", "hours", "size", "move"] (defScope (topS 38)) := ⟨rfl, rfl, rfl, by decide +kernel, rfl, by decide +kernel, by decide +kernel⟩
theorem ok__law_alone (B : Bi K mg cA) (D__law_as : Df P w K mg base cA "_law_as" 2 1 F__law_as) (D__law_blocks : Df P w K mg base cA "_law_blocks" 3 1 F__law_blocks) (D__law_gaps : Df P w K mg base cA "_law_gaps" 1 2 F__law_gaps) (D__law_just : Df P w K mg base cA "_law_just" 2 1 F__law_just) (D__law_least_form : Df P w K mg base cA "_law_least_form" 1 1 F__law_least_form) (D_first_hour : Df P w K mg base cA "first_hour" 1 10 F_first_hour) (D_has_hour : Df P w K mg base cA "has_hour" 2 10 F_has_hour) (D_last_hour : Df P w K mg base cA "last_hour" 1 10 F_last_hour) (D_least_form : Df P w K mg base cA "least_form" 1 10 F_least_form) (D_lot_count : Df P w K mg base cA "lot_count" 1 10 F_lot_count) (D_lot_holes : Df P w K mg base cA "lot_holes" 1 10 F_lot_holes) {f : Addr} {fd : FuncData} (Fu : L2.Fun K "_law_alone" "_law_alone" (topS 38) f fd) : FnOk P w K mg base (L2.CX P w) 11 f fd ["great", "way", "hours", "size", "move"] (SpD K cA 5 F__law_alone) :=
  have S := sc__law_alone
  fn_okN (cA := cA) (N := ["great", "way", "hours", "size", "move", "due", "gaps", "first", "last", "handed", "hour", "inside"]) 5 7 Fu sc__law_alone rfl rfl (fun cdv A outer s H E X hX hr tk hp => by
    subst hX
    exact (ms_cons (ms_set (i := 5) S.nd rfl (by first | exact Or.inl rfl | exact Or.inr rfl) (me_callD D__law_blocks rfl (hr.mono (by decide)) (by rfl) tk (ma_cons (me_callD D__law_least_form rfl (hr.mono (by decide)) (by rfl) tk (ma_cons (me_var (pv 2)) ma_nil)) (ma_cons (me_var (pv 3)) (ma_cons (me_var (pv 4)) ma_nil)))))
      (ms_cons (ms_set (i := 6) S.nd rfl (by first | exact Or.inl rfl | exact Or.inr rfl) (me_callD D__law_blocks rfl (hr.mono (by decide)) (by rfl) tk (ma_cons (me_callD D__law_gaps rfl (hr.mono (by decide)) (by rfl) tk (ma_cons (me_var (pv 2)) ma_nil)) (ma_cons (me_var (pv 3)) (ma_cons (me_var (pv 4)) ma_nil)))))
      (ms_cons (ms_set (i := 7) S.nd rfl (by first | exact Or.inl rfl | exact Or.inr rfl) me_non)
      (ms_cons (ms_set (i := 8) S.nd rfl (by first | exact Or.inl rfl | exact Or.inr rfl) me_non)
      (ms_cons (ms_if (mt_op op_gt s_gt (me_callB c_len s_len (by rfl) B.z_len (by decide +kernel) (ma_cons (me_var (pv 2)) ma_nil)) me_int (nomark _)) (ms_cons (ms_set (i := 7) S.nd rfl (by first | exact Or.inl rfl | exact Or.inr rfl) (me_op2 o_add s_add (me_op2 o_mulA s_mulA (me_ix ix_seq s_ix (me_var (pv 2)) me_int) (me_var (pv 3))) (me_var (pv 4))))
      (ms_one (ms_set (i := 8) S.nd rfl (by first | exact Or.inl rfl | exact Or.inr rfl) (me_op2 o_add s_add (me_op2 op_sub s_sub (me_op2 o_add s_add (me_op2 o_mulA s_mulA (me_ix ix_seq s_ix (me_var (pv 2)) (me_un un_neg s_neg me_int)) (me_var (pv 3))) (me_var (pv 3))) me_int) (me_var (pv 4)))))) ms_nil)
      (ms_cons (ms_set (i := 9) S.nd rfl (by first | exact Or.inl rfl | exact Or.inr rfl) (me_callD D__law_as rfl (hr.mono (by decide)) (by rfl) tk (ma_cons (me_var (pv 0)) (ma_cons (me_var (pv 1)) ma_nil))))
      (ms_cons (ms_if (PW.pt (mw_or (mt_not (mt_val (me_callD D__law_just rfl (hr.mono (by decide)) (by rfl) tk (ma_cons (me_callD D_least_form rfl (hr.mono (by decide)) (by rfl) tk (ma_cons (me_var (pv 9)) ma_nil)) (ma_cons (me_var (pv 5)) ma_nil))))) (mw_or1 (mt_op (op_neD (hu64 hr)) s_ne (me_var (pv 9)) (me_callD D__law_as rfl (hr.mono (by decide)) (by rfl) tk (ma_cons (me_var (pv 0)) (ma_cons (me_var (pv 1)) ma_nil))) (nomark _))))) (ms_one (ms_ret me_bl)) ms_nil)
      (ms_cons (ms_if (mt_not (mt_val (me_callD D__law_just rfl (hr.mono (by decide)) (by rfl) tk (ma_cons (me_callD D_lot_count rfl (hr.mono (by decide)) (by rfl) tk (ma_cons (me_callD D__law_as rfl (hr.mono (by decide)) (by rfl) tk (ma_cons (me_var (pv 0)) (ma_cons (me_var (pv 1)) ma_nil))) ma_nil)) (ma_cons (me_op2 o_mulA s_mulA (me_callB c_len s_len (by rfl) B.z_len (by decide +kernel) (ma_cons (me_var (pv 2)) ma_nil)) (me_var (pv 3))) ma_nil))))) (ms_one (ms_ret me_bl)) ms_nil)
      (ms_cons (ms_if (PW.pt (mw_or (mt_not (mt_val (me_callD D__law_just rfl (hr.mono (by decide)) (by rfl) tk (ma_cons (me_callD D_first_hour rfl (hr.mono (by decide)) (by rfl) tk (ma_cons (me_callD D__law_as rfl (hr.mono (by decide)) (by rfl) tk (ma_cons (me_var (pv 0)) (ma_cons (me_var (pv 1)) ma_nil))) ma_nil)) (ma_cons (me_var (pv 7)) ma_nil))))) (mw_or1 (mt_not (mt_val (me_callD D__law_just rfl (hr.mono (by decide)) (by rfl) tk (ma_cons (me_callD D_last_hour rfl (hr.mono (by decide)) (by rfl) tk (ma_cons (me_callD D__law_as rfl (hr.mono (by decide)) (by rfl) tk (ma_cons (me_var (pv 0)) (ma_cons (me_var (pv 1)) ma_nil))) ma_nil)) (ma_cons (me_var (pv 8)) ma_nil)))))))) (ms_one (ms_ret me_bl)) ms_nil)
      (ms_cons (ms_if (mt_not (mt_val (me_callD D__law_just rfl (hr.mono (by decide)) (by rfl) tk (ma_cons (me_callD D_lot_holes rfl (hr.mono (by decide)) (by rfl) tk (ma_cons (me_callD D__law_as rfl (hr.mono (by decide)) (by rfl) tk (ma_cons (me_var (pv 0)) (ma_cons (me_var (pv 1)) ma_nil))) ma_nil)) (ma_cons (me_var (pv 6)) ma_nil))))) (ms_one (ms_ret me_bl)) ms_nil)
      (ms_cons (ms_for hp rfl (mi_rng2 (by rfl) B.z_range (ma_cons (me_un un_neg s_neg me_int) (ma_cons me_int ma_nil))) (mg_name (pg_name (i := 10) S.nd rfl (by first | exact Or.inl rfl | exact Or.inr rfl))) (ms_cons (ms_set (i := 11) S.nd rfl (by first | exact Or.inl rfl | exact Or.inr rfl) (me_cmp op_in_seq s_in (me_var (pv 10)) (me_var (pv 2)) (by rfl)))
      (ms_cons (ms_if (mt_not (mt_val (me_callD D__law_just rfl (hr.mono (by decide)) (by rfl) tk (ma_cons (me_callD D_has_hour rfl (hr.mono (by decide)) (by rfl) tk (ma_cons (me_callD D__law_as rfl (hr.mono (by decide)) (by rfl) tk (ma_cons (me_var (pv 0)) (ma_cons (me_var (pv 1)) ma_nil))) (ma_cons (me_op2 o_add s_add (me_op2 o_mulA s_mulA (me_var (pv 10)) (me_var (pv 3))) (me_var (pv 4))) ma_nil))) (ma_cons (me_var (pv 11)) ma_nil))))) (ms_one (ms_ret me_bl)) ms_nil)
      (ms_one (ms_if (mt_not (mt_val (me_callD D__law_just rfl (hr.mono (by decide)) (by rfl) tk (ma_cons (me_callD D_has_hour rfl (hr.mono (by decide)) (by rfl) tk (ma_cons (me_callD D__law_as rfl (hr.mono (by decide)) (by rfl) tk (ma_cons (me_var (pv 0)) (ma_cons (me_var (pv 1)) ma_nil))) (ma_cons (me_op2 o_add s_add (me_op2 op_sub s_sub (me_op2 o_add s_add (me_op2 o_mulA s_mulA (me_var (pv 10)) (me_var (pv 3))) (me_var (pv 3))) me_int) (me_var (pv 4))) ma_nil))) (ma_cons (me_var (pv 11)) ma_nil))))) (ms_one (ms_ret me_bl)) ms_nil)))))
      (ms_one (ms_ret me_bl))))))))))))))
theorem sc__law_clip : FnScope ["lot", "first", "last", "out", "pair", "low", "high"] ["lot", "first", "last"] (defScope (topS 35)) := ⟨rfl, rfl, rfl, by decide +kernel, rfl, by decide +kernel, by decide +kernel⟩
theorem ok__law_clip (B : Bi K mg cA)  {f : Addr} {fd : FuncData} (Fu : L2.Fun K "_law_clip" "_law_clip" (topS 35) f fd) : FnOk P w K mg base (L2.CX P w) 1 f fd ["lot", "first", "last"] (SpD K cA 3 F__law_clip) :=
  have S := sc__law_clip
  fn_okN (cA := cA) (N := ["lot", "first", "last", "out", "pair", "low", "high"]) 3 4 Fu sc__law_clip rfl rfl (fun cdv A outer s H E X hX hr tk hp => by
    subst hX
    exact (ms_cons (ms_set (i := 3) S.nd rfl (by first | exact Or.inl rfl | exact Or.inr rfl) (me_lst ma_nil))
      (ms_cons (ms_for hp rfl (mi_seq rfl (me_var (pv 0))) (mg_name (pg_name (i := 4) S.nd rfl (by first | exact Or.inl rfl | exact Or.inr rfl))) (ms_cons (ms_set (i := 5) S.nd rfl (by first | exact Or.inl rfl | exact Or.inr rfl) (me_ix ix_seq s_ix (me_var (pv 4)) me_int))
      (ms_cons (ms_set (i := 6) S.nd rfl (by first | exact Or.inl rfl | exact Or.inr rfl) (me_ix ix_seq s_ix (me_var (pv 4)) me_int))
      (ms_cons (ms_if (PW.pt (mw_and (mt_noN (me_var (pv 1))) (mw_and1 (mt_op op_lt s_lt (me_var (pv 5)) (me_var (pv 1)) (nomark _))))) (ms_one (ms_set (i := 5) S.nd rfl (by first | exact Or.inl rfl | exact Or.inr rfl) (me_var (pv 1)))) ms_nil)
      (ms_cons (ms_if (PW.pt (mw_and (mt_noN (me_var (pv 2))) (mw_and1 (mt_op op_gt s_gt (me_var (pv 6)) (me_var (pv 2)) (nomark _))))) (ms_one (ms_set (i := 6) S.nd rfl (by first | exact Or.inl rfl | exact Or.inr rfl) (me_var (pv 2)))) ms_nil)
      (ms_one (ms_if (mt_op op_le s_le (me_var (pv 5)) (me_var (pv 6)) (nomark _)) (ms_one (ms_expr (me_app (pv 3) (me_tup (ma_cons (me_var (pv 5)) (ma_cons (me_var (pv 6)) ma_nil)))))) ms_nil)))))))
      (ms_one (ms_ret (me_callTy call_tuple_of s_tuple (by rfl) B.z_tuple (by decide +kernel) (ma_cons (me_var (pv 3)) ma_nil)))))))
theorem sc__law_take : FnScope ["tape", "many"] ["tape", "many"] (defScope (topS 27)) := ⟨rfl, rfl, rfl, by decide +kernel, rfl, by decide +kernel, by decide +kernel⟩
theorem ok__law_take (B : Bi K mg cA)  {f : Addr} {fd : FuncData} (Fu : L2.Fun K "_law_take" "_law_take" (topS 27) f fd) : FnOk P w K mg base (L2.CX P w) 1 f fd ["tape", "many"] (SpD K cA 2 F__law_take) :=
  have S := sc__law_take
  fn_okN (cA := cA) (N := ["tape", "many"]) 2 0 Fu sc__law_take rfl rfl (fun cdv A outer s H E X hX hr tk hp => by
    subst hX
    exact (ms_cons (ms_if (mt_op (op_eqD (hu64 hr)) s_eq (me_callB c_len s_len (by rfl) B.z_len (by decide +kernel) (ma_cons (me_var (pv 0)) ma_nil)) me_int (nomark _)) (ms_one (ms_ret me_int)) ms_nil)
      (ms_one (ms_ret (me_op2 op_mod s_mod (me_callTy call_int1 s_int (by rfl) B.z_int (by decide +kernel) (ma_cons (me_pop (pv 0)) ma_nil)) (me_var (pv 1)))))))
theorem sc__law_lot : FnScope ["tape", "many", "wide", "out", "turn", "first"] ["tape", "many", "wide"] (defScope (topS 30)) := ⟨rfl, rfl, rfl, by decide +kernel, rfl, by decide +kernel, by decide +kernel⟩
theorem ok__law_lot (B : Bi K mg cA) (D__law_take : Df P w K mg base cA "_law_take" 2 1 F__law_take) {f : Addr} {fd : FuncData} (Fu : L2.Fun K "_law_lot" "_law_lot" (topS 30) f fd) : FnOk P w K mg base (L2.CX P w) 2 f fd ["tape", "many", "wide"] (SpD K cA 3 F__law_lot) :=
  have S := sc__law_lot
  fn_okN (cA := cA) (N := ["tape", "many", "wide", "out", "turn", "first"]) 3 3 Fu sc__law_lot rfl rfl (fun cdv A outer s H E X hX hr tk hp => by
    subst hX
    exact (ms_cons (ms_set (i := 3) S.nd rfl (by first | exact Or.inl rfl | exact Or.inr rfl) (me_lst ma_nil))
      (ms_cons (ms_for hp rfl (mi_rng1 (by rfl) B.z_range (ma_cons (me_op2 o_add s_add me_int (me_callBD D__law_take rfl (hr.mono (by decide)) (by rfl) tk (ma_cons (me_var (pv 0)) (ma_cons (me_var (pv 1)) ma_nil)))) ma_nil)) (mg_name (pg_name (i := 4) S.nd rfl (by first | exact Or.inl rfl | exact Or.inr rfl))) (ms_cons (ms_set (i := 5) S.nd rfl (by first | exact Or.inl rfl | exact Or.inr rfl) (me_op2 op_sub s_sub (me_callBD D__law_take rfl (hr.mono (by decide)) (by rfl) tk (ma_cons (me_var (pv 0)) (ma_cons (me_var (pv 2)) ma_nil))) (me_ix ix_seq s_ix (me_tup (ma_cons me_int (ma_cons me_int (ma_cons me_int ma_nil)))) (me_callBD D__law_take rfl (hr.mono (by decide)) (by rfl) tk (ma_cons (me_var (pv 0)) (ma_cons me_int ma_nil))))))
      (ms_one (ms_expr (me_app (pv 3) (me_tup (ma_cons (me_var (pv 5)) (ma_cons (me_op2 o_add s_add (me_var (pv 5)) (me_ix ix_seq s_ix (me_tup (ma_cons me_int (ma_cons me_int (ma_cons me_int (ma_cons me_int (ma_cons me_int ma_nil)))))) (me_callBD D__law_take rfl (hr.mono (by decide)) (by rfl) tk (ma_cons (me_var (pv 0)) (ma_cons me_int ma_nil))))) ma_nil))))))))
      (ms_one (ms_ret (me_callTy call_tuple_of s_tuple (by rfl) B.z_tuple (by decide +kernel) (ma_cons (me_var (pv 3)) ma_nil)))))))
theorem sc__law_drawn : FnScope ["tape", "lot", "way"] ["tape"] (defScope (topS 32)) := ⟨rfl, rfl, rfl, by decide +kernel, rfl, by decide +kernel, by decide +kernel⟩
theorem ok__law_drawn (B : Bi K mg cA) (D__law_lot : Df P w K mg base cA "_law_lot" 3 2 F__law_lot) (D__law_take : Df P w K mg base cA "_law_take" 2 1 F__law_take) {f : Addr} {fd : FuncData} (Fu : L2.Fun K "_law_drawn" "_law_drawn" (topS 32) f fd) : FnOk P w K mg base (L2.CX P w) 3 f fd ["tape"] (SpD K cA 1 F__law_drawn) :=
  have S := sc__law_drawn
  fn_okN (cA := cA) (N := ["tape", "lot", "way"]) 1 2 Fu sc__law_drawn rfl rfl (fun cdv A outer s H E X hX hr tk hp => by
    subst hX
    exact (ms_cons (ms_set (i := 1) S.nd rfl (by first | exact Or.inl rfl | exact Or.inr rfl) (me_callBD D__law_lot rfl (hr.mono (by decide)) (by rfl) tk (ma_cons (me_var (pv 0)) (ma_cons me_int (ma_cons me_int ma_nil)))))
      (ms_cons (ms_set (i := 2) S.nd rfl (by first | exact Or.inl rfl | exact Or.inr rfl) (me_callBD D__law_take rfl (hr.mono (by decide)) (by rfl) tk (ma_cons (me_var (pv 0)) (ma_cons me_int ma_nil))))
      (ms_cons (ms_if (mt_op (op_eqD (hu64 hr)) s_eq (me_var (pv 2)) me_int (nomark _)) (ms_one (ms_ret (me_tup ma_nil))) ms_nil)
      (ms_cons (ms_if (mt_op (op_eqD (hu64 hr)) s_eq (me_var (pv 2)) me_int (nomark _)) (ms_one (ms_ret (me_op2 o_add s_add (me_var (pv 1)) (me_sl rfl (me_var (pv 1)) mo_none (mo_some me_int))))) ms_nil)
      (ms_one (ms_ret (me_var (pv 1)))))))))
theorem sc__law_edge : FnScope ["tape", "size", "move", "at"] ["tape", "size", "move"] (defScope (topS 37)) := ⟨rfl, rfl, rfl, by decide +kernel, rfl, by decide +kernel, by decide +kernel⟩
theorem ok__law_edge (B : Bi K mg cA) (D__law_take : Df P w K mg base cA "_law_take" 2 1 F__law_take) {f : Addr} {fd : FuncData} (Fu : L2.Fun K "_law_edge" "_law_edge" (topS 37) f fd) : FnOk P w K mg base (L2.CX P w) 2 f fd ["tape", "size", "move"] (SpD K cA 3 F__law_edge) :=
  have S := sc__law_edge
  fn_okN (cA := cA) (N := ["tape", "size", "move", "at"]) 3 1 Fu sc__law_edge rfl rfl (fun cdv A outer s H E X hX hr tk hp => by
    subst hX
    exact (ms_cons (ms_set (i := 3) S.nd rfl (by first | exact Or.inl rfl | exact Or.inr rfl) (me_op2 o_add s_add (me_op2 o_add s_add (me_op2 o_mulA s_mulA (me_op2 op_sub s_sub (me_callBD D__law_take rfl (hr.mono (by decide)) (by rfl) tk (ma_cons (me_var (pv 0)) (ma_cons me_int ma_nil))) me_int) (me_var (pv 1))) (me_var (pv 2))) (me_ix ix_seq s_ix (me_tup (ma_cons me_int (ma_cons me_int (ma_cons (me_op2 op_fdivW s_div (me_var (pv 1)) me_int) ma_nil)))) (me_callBD D__law_take rfl (hr.mono (by decide)) (by rfl) tk (ma_cons (me_var (pv 0)) (ma_cons me_int ma_nil))))))
      (ms_cons (ms_if (mt_op (op_eqD (hu64 hr)) s_eq (me_callBD D__law_take rfl (hr.mono (by decide)) (by rfl) tk (ma_cons (me_var (pv 0)) (ma_cons me_int ma_nil))) me_int (nomark _)) (ms_one (ms_ret me_non)) ms_nil)
      (ms_one (ms_ret (me_var (pv 3)))))))
theorem sc__law_hours : FnScope ["lot", "out", "stretch"] ["lot"] (defScope (topS 28)) := ⟨rfl, rfl, rfl, by decide +kernel, rfl, by decide +kernel, by decide +kernel⟩
theorem ok__law_hours (B : Bi K mg cA)  {f : Addr} {fd : FuncData} (Fu : L2.Fun K "_law_hours" "_law_hours" (topS 28) f fd) : FnOk P w K mg base (L2.CX P w) 1 f fd ["lot"] (SpD K cA 1 F__law_hours) :=
  have S := sc__law_hours
  fn_okN (cA := cA) (N := ["lot", "out", "stretch"]) 1 2 Fu sc__law_hours rfl rfl (fun cdv A outer s H E X hX hr tk hp => by
    subst hX
    exact (ms_cons (ms_set (i := 1) S.nd rfl (by first | exact Or.inl rfl | exact Or.inr rfl) (me_lst ma_nil))
      (ms_cons (ms_for hp rfl (mi_seq rfl (me_var (pv 0))) (mg_name (pg_name (i := 2) S.nd rfl (by first | exact Or.inl rfl | exact Or.inr rfl))) (ms_one (ms_set (i := 1) S.nd rfl (by first | exact Or.inl rfl | exact Or.inr rfl) (me_op2 o_add s_add (me_var (pv 1)) (me_lrng rfl (by rfl) B.z_list (by rfl) B.z_range (ma_cons (me_ix ix_seq s_ix (me_var (pv 2)) me_int) (ma_cons (me_op2 o_add s_add (me_ix ix_seq s_ix (me_var (pv 2)) me_int) me_int) ma_nil)))))))
      (ms_one (ms_ret (me_sset rfl rfl (by rfl) B.z_sorted (by rfl) B.z_set (ma_cons (me_var (pv 1)) ma_nil)))))))
theorem sc_other_pairs_of : FnScope ["lot", "fault", "entry"] ["lot"] (defScope (topS 11)) := ⟨rfl, rfl, rfl, by decide +kernel, rfl, by decide +kernel, by decide +kernel⟩
theorem ok_other_pairs_of (B : Bi K mg cA) (D_lot_fault : Df P w K mg base cA "lot_fault" 1 3 F_lot_fault) (R_BadHours : Rz P w K mg base cA "BadHours" 3 "at" ini_BadHours 7) {f : Addr} {fd : FuncData} (Fu : L2.Fun K "other_pairs_of" "other_pairs_of" (topS 11) f fd) : FnOk P w K mg base (L2.CX P w) 9 f fd ["lot"] (SpD K cA 1 F_other_pairs_of) :=
  have S := sc_other_pairs_of
  fn_okN (cA := cA) (N := ["lot", "fault", "entry"]) 1 2 Fu sc_other_pairs_of rfl rfl (fun cdv A outer s H E X hX hr tk hp => by
    subst hX
    exact (ms_cons (ms_set (i := 1) S.nd rfl (by first | exact Or.inl rfl | exact Or.inr rfl) (me_callD D_lot_fault rfl (hr.mono (by decide)) (by rfl) tk (ma_cons (me_var (pv 0)) ma_nil)))
      (ms_cons (ms_if (mt_noN (me_var (pv 1))) (ms_one (ms_raiseD R_BadHours rfl (hr.mono (by decide)) tk rfl (by rfl) (me_tup (ma_cons (me_var (pv 1)) (ma_cons (me_un un_neg s_neg me_int) ma_nil))))) ms_nil)
      (ms_one (ms_ret (me_lc (own := [("entry", 2)]) rfl S.nd (mi_seq rfl (me_var (pv 0))) (by show BlkOk ["lot", "fault", "entry"] (defScope (topS 11)) _ [("entry", 2)]; exact ⟨rfl, by decide +kernel, by decide +kernel, by decide +kernel, by decide +kernel⟩) (fun _ _ _ _ _ => (mg_name (pg_name (i := 2) S.nd rfl (by first | exact Or.inl rfl | exact Or.inr rfl)))) (fun _ _ _ _ _ => pts_nil) (fun _ _ _ _ _ => (me_tup (ma_cons (me_ix ix_seq s_ix (me_var (pv 2)) me_int) (ma_cons (me_ix ix_seq s_ix (me_var (pv 2)) me_int) ma_nil)))) tt_nil (by decide) (by decide)))))))
theorem sc_shared_by : FnScope ["one", "two", "told", "here", "there", "first", "last"] ["one", "two"] (defScope (topS 13)) := ⟨rfl, rfl, rfl, by decide +kernel, rfl, by decide +kernel, by decide +kernel⟩
theorem ok_shared_by (B : Bi K mg cA)  {f : Addr} {fd : FuncData} (Fu : L2.Fun K "shared_by" "shared_by" (topS 13) f fd) : FnOk P w K mg base (L2.CX P w) 1 f fd ["one", "two"] (SpD K cA 2 F_shared_by) :=
  have S := sc_shared_by
  fn_okN (cA := cA) (N := ["one", "two", "told", "here", "there", "first", "last"]) 2 5 Fu sc_shared_by rfl rfl (fun cdv A outer s H E X hX hr tk hp => by
    subst hX
    exact (ms_cons (ms_set (i := 2) S.nd rfl (by first | exact Or.inl rfl | exact Or.inr rfl) (me_lst ma_nil))
      (ms_cons (ms_asgT (me_tup (ma_cons me_int (ma_cons me_int ma_nil))) (mg_tup (pg_tup rfl (pgs_cons (pg_name (i := 3) S.nd rfl (by first | exact Or.inl rfl | exact Or.inr rfl)) (pgs_cons (pg_name (i := 4) S.nd rfl (by first | exact Or.inl rfl | exact Or.inr rfl)) pgs_nil))) rfl))
      (ms_cons (ms_while hp (PW.pt (mw_and (mt_op op_lt s_lt (me_var (pv 3)) (me_callB c_len s_len (by rfl) B.z_len (by decide +kernel) (ma_cons (me_var (pv 0)) ma_nil)) (nomark _)) (mw_and1 (mt_op op_lt s_lt (me_var (pv 4)) (me_callB c_len s_len (by rfl) B.z_len (by decide +kernel) (ma_cons (me_var (pv 1)) ma_nil)) (nomark _))))) (ms_cons (ms_set (i := 5) S.nd rfl (by first | exact Or.inl rfl | exact Or.inr rfl) (me_callB (call_max2 rfl) s_max (by rfl) B.z_max (by decide +kernel) (ma_cons (me_ix ix_seq s_ix (me_ix ix_seq s_ix (me_var (pv 0)) (me_var (pv 3))) me_int) (ma_cons (me_ix ix_seq s_ix (me_ix ix_seq s_ix (me_var (pv 1)) (me_var (pv 4))) me_int) ma_nil))))
      (ms_cons (ms_set (i := 6) S.nd rfl (by first | exact Or.inl rfl | exact Or.inr rfl) (me_callB (call_min2 rfl) s_min (by rfl) B.z_min (by decide +kernel) (ma_cons (me_ix ix_seq s_ix (me_ix ix_seq s_ix (me_var (pv 0)) (me_var (pv 3))) me_int) (ma_cons (me_ix ix_seq s_ix (me_ix ix_seq s_ix (me_var (pv 1)) (me_var (pv 4))) me_int) ma_nil))))
      (ms_cons (ms_if (mt_op op_le s_le (me_var (pv 5)) (me_var (pv 6)) (nomark _)) (ms_one (ms_expr (me_app (pv 2) (me_tup (ma_cons (me_var (pv 5)) (ma_cons (me_var (pv 6)) ma_nil)))))) ms_nil)
      (ms_one (ms_if (mt_op op_lt s_lt (me_ix ix_seq s_ix (me_ix ix_seq s_ix (me_var (pv 0)) (me_var (pv 3))) me_int) (me_ix ix_seq s_ix (me_ix ix_seq s_ix (me_var (pv 1)) (me_var (pv 4))) me_int) (nomark _)) (ms_one (ms_aug s_addI (ps_aug (i := 3) S.nd rfl (by first | exact Or.inl rfl | exact Or.inr rfl) me_int (pip_of iop_add)))) (ms_one (ms_aug s_addI (ps_aug (i := 4) S.nd rfl (by first | exact Or.inl rfl | exact Or.inr rfl) me_int (pip_of iop_add))))))))))
      (ms_one (ms_ret (me_callTy call_tuple_of s_tuple (by rfl) B.z_tuple (by decide +kernel) (ma_cons (me_var (pv 2)) ma_nil))))))))
theorem sc_lot_meet : FnScope ["lot", "other", "pairs", "others"] ["lot", "other"] (defScope (topS 21)) := ⟨rfl, rfl, rfl, by decide +kernel, rfl, by decide +kernel, by decide +kernel⟩
theorem ok_lot_meet (B : Bi K mg cA) (D_joined_up : Df P w K mg base cA "joined_up" 1 1 F_joined_up) (D_other_pairs_of : Df P w K mg base cA "other_pairs_of" 1 9 F_other_pairs_of) (D_pairs_of : Df P w K mg base cA "pairs_of" 1 9 F_pairs_of) (D_shared_by : Df P w K mg base cA "shared_by" 2 1 F_shared_by) {f : Addr} {fd : FuncData} (Fu : L2.Fun K "lot_meet" "lot_meet" (topS 21) f fd) : FnOk P w K mg base (L2.CX P w) 10 f fd ["lot", "other"] (SpD K cA 2 F_lot_meet) :=
  have S := sc_lot_meet
  fn_okN (cA := cA) (N := ["lot", "other", "pairs", "others"]) 2 2 Fu sc_lot_meet rfl rfl (fun cdv A outer s H E X hX hr tk hp => by
    subst hX
    exact (ms_cons (ms_set (i := 2) S.nd rfl (by first | exact Or.inl rfl | exact Or.inr rfl) (me_callD D_pairs_of rfl (hr.mono (by decide)) (by rfl) tk (ma_cons (me_var (pv 0)) ma_nil)))
      (ms_cons (ms_set (i := 3) S.nd rfl (by first | exact Or.inl rfl | exact Or.inr rfl) (me_callD D_other_pairs_of rfl (hr.mono (by decide)) (by rfl) tk (ma_cons (me_var (pv 1)) ma_nil)))
      (ms_one (ms_ret (me_callD D_shared_by rfl (hr.mono (by decide)) (by rfl) tk (ma_cons (me_callD D_joined_up rfl (hr.mono (by decide)) (by rfl) tk (ma_cons (me_var (pv 2)) ma_nil)) (ma_cons (me_callD D_joined_up rfl (hr.mono (by decide)) (by rfl) tk (ma_cons (me_var (pv 3)) ma_nil)) ma_nil))))))))
theorem sc_lot_union : FnScope ["lot", "other", "pairs", "others"] ["lot", "other"] (defScope (topS 20)) := ⟨rfl, rfl, rfl, by decide +kernel, rfl, by decide +kernel, by decide +kernel⟩
theorem ok_lot_union (B : Bi K mg cA) (D_joined_up : Df P w K mg base cA "joined_up" 1 1 F_joined_up) (D_other_pairs_of : Df P w K mg base cA "other_pairs_of" 1 9 F_other_pairs_of) (D_pairs_of : Df P w K mg base cA "pairs_of" 1 9 F_pairs_of) {f : Addr} {fd : FuncData} (Fu : L2.Fun K "lot_union" "lot_union" (topS 20) f fd) : FnOk P w K mg base (L2.CX P w) 10 f fd ["lot", "other"] (SpD K cA 2 F_lot_union) :=
  have S := sc_lot_union
  fn_okN (cA := cA) (N := ["lot", "other", "pairs", "others"]) 2 2 Fu sc_lot_union rfl rfl (fun cdv A outer s H E X hX hr tk hp => by
    subst hX
    exact (ms_cons (ms_set (i := 2) S.nd rfl (by first | exact Or.inl rfl | exact Or.inr rfl) (me_callD D_pairs_of rfl (hr.mono (by decide)) (by rfl) tk (ma_cons (me_var (pv 0)) ma_nil)))
      (ms_cons (ms_set (i := 3) S.nd rfl (by first | exact Or.inl rfl | exact Or.inr rfl) (me_callD D_other_pairs_of rfl (hr.mono (by decide)) (by rfl) tk (ma_cons (me_var (pv 1)) ma_nil)))
      (ms_one (ms_ret (me_callD D_joined_up rfl (hr.mono (by decide)) (by rfl) tk (ma_cons (me_op2 o_add s_add (me_var (pv 2)) (me_var (pv 3))) ma_nil)))))))
theorem sc__law_pair : FnScope ["great", "other", "way", "hours", "others", "size", "move", "joined", "shared", "hour"] ["great", "other", "way", "hours", "others", "size", "move"] (defScope (topS 39)) := ⟨rfl, rfl, rfl, by decide +kernel, rfl, by decide +kernel, by decide +kernel⟩
theorem ok__law_pair (B : Bi K mg cA) (D__law_as : Df P w K mg base cA "_law_as" 2 1 F__law_as) (D__law_blocks : Df P w K mg base cA "_law_blocks" 3 1 F__law_blocks) (D__law_just : Df P w K mg base cA "_law_just" 2 1 F__law_just) (D__law_least_form : Df P w K mg base cA "_law_least_form" 1 1 F__law_least_form) (D_lot_meet : Df P w K mg base cA "lot_meet" 2 10 F_lot_meet) (D_lot_union : Df P w K mg base cA "lot_union" 2 10 F_lot_union) {f : Addr} {fd : FuncData} (Fu : L2.Fun K "_law_pair" "_law_pair" (topS 39) f fd) : FnOk P w K mg base (L2.CX P w) 11 f fd ["great", "other", "way", "hours", "others", "size", "move"] (SpD K cA 7 F__law_pair) :=
  have S := sc__law_pair
  fn_okN (cA := cA) (N := ["great", "other", "way", "hours", "others", "size", "move", "joined", "shared", "hour"]) 7 3 Fu sc__law_pair rfl rfl (fun cdv A outer s H E X hX hr tk hp => by
    subst hX
    exact (ms_cons (ms_set (i := 7) S.nd rfl (by first | exact Or.inl rfl | exact Or.inr rfl) (me_callD D__law_blocks rfl (hr.mono (by decide)) (by rfl) tk (ma_cons (me_callD D__law_least_form rfl (hr.mono (by decide)) (by rfl) tk (ma_cons (me_op2 o_add s_add (me_var (pv 3)) (me_var (pv 4))) ma_nil)) (ma_cons (me_var (pv 5)) (ma_cons (me_var (pv 6)) ma_nil)))))
      (ms_cons (ms_set (i := 8) S.nd rfl (by first | exact Or.inl rfl | exact Or.inr rfl) (me_callD D__law_blocks rfl (hr.mono (by decide)) (by rfl) tk (ma_cons (me_callD D__law_least_form rfl (hr.mono (by decide)) (by rfl) tk (ma_cons (me_lc (own := [("hour", 9)]) rfl S.nd (mi_seq rfl (me_var (pv 3))) (by show BlkOk ["great", "other", "way", "hours", "others", "size", "move", "joined", "shared", "hour"] (defScope (topS 39)) _ [("hour", 9)]; exact ⟨rfl, by decide +kernel, by decide +kernel, by decide +kernel, by decide +kernel⟩) (fun _ _ _ _ _ => (mg_name (pg_name (i := 9) S.nd rfl (by first | exact Or.inl rfl | exact Or.inr rfl)))) (fun _ _ _ _ _ => (pts_one (mt_op op_in_seq s_in (me_var (pv 9)) (me_var (pv 4)) (by rfl)))) (fun _ _ _ _ _ => (me_var (pv 9))) tt_one (by decide) (by decide)) ma_nil)) (ma_cons (me_var (pv 5)) (ma_cons (me_var (pv 6)) ma_nil)))))
      (ms_cons (ms_if (mt_not (mt_val (me_callD D__law_just rfl (hr.mono (by decide)) (by rfl) tk (ma_cons (me_callD D_lot_union rfl (hr.mono (by decide)) (by rfl) tk (ma_cons (me_callD D__law_as rfl (hr.mono (by decide)) (by rfl) tk (ma_cons (me_var (pv 0)) (ma_cons (me_var (pv 2)) ma_nil))) (ma_cons (me_callD D__law_as rfl (hr.mono (by decide)) (by rfl) tk (ma_cons (me_var (pv 1)) (ma_cons (me_op2 op_sub s_sub me_int (me_var (pv 2))) ma_nil))) ma_nil))) (ma_cons (me_var (pv 7)) ma_nil))))) (ms_one (ms_ret me_bl)) ms_nil)
      (ms_cons (ms_if (mt_not (mt_val (me_callD D__law_just rfl (hr.mono (by decide)) (by rfl) tk (ma_cons (me_callD D_lot_union rfl (hr.mono (by decide)) (by rfl) tk (ma_cons (me_callD D__law_as rfl (hr.mono (by decide)) (by rfl) tk (ma_cons (me_var (pv 1)) (ma_cons (me_var (pv 2)) ma_nil))) (ma_cons (me_callD D__law_as rfl (hr.mono (by decide)) (by rfl) tk (ma_cons (me_var (pv 0)) (ma_cons (me_var (pv 2)) ma_nil))) ma_nil))) (ma_cons (me_var (pv 7)) ma_nil))))) (ms_one (ms_ret me_bl)) ms_nil)
      (ms_cons (ms_if (mt_not (mt_val (me_callD D__law_just rfl (hr.mono (by decide)) (by rfl) tk (ma_cons (me_callD D_lot_meet rfl (hr.mono (by decide)) (by rfl) tk (ma_cons (me_callD D__law_as rfl (hr.mono (by decide)) (by rfl) tk (ma_cons (me_var (pv 0)) (ma_cons (me_var (pv 2)) ma_nil))) (ma_cons (me_callD D__law_as rfl (hr.mono (by decide)) (by rfl) tk (ma_cons (me_var (pv 1)) (ma_cons (me_var (pv 2)) ma_nil))) ma_nil))) (ma_cons (me_var (pv 8)) ma_nil))))) (ms_one (ms_ret me_bl)) ms_nil)
      (ms_one (ms_ret (me_callD D__law_just rfl (hr.mono (by decide)) (by rfl) tk (ma_cons (me_callD D_lot_meet rfl (hr.mono (by decide)) (by rfl) tk (ma_cons (me_callD D__law_as rfl (hr.mono (by decide)) (by rfl) tk (ma_cons (me_var (pv 1)) (ma_cons (me_op2 op_sub s_sub me_int (me_var (pv 2))) ma_nil))) (ma_cons (me_callD D__law_as rfl (hr.mono (by decide)) (by rfl) tk (ma_cons (me_var (pv 0)) (ma_cons (me_var (pv 2)) ma_nil))) ma_nil))) (ma_cons (me_var (pv 8)) ma_nil)))))))))))
theorem sc__law_tape : FnScope ["script", "tape", "cell", "rest", "turn", "many", "at"] ["script"] (defScope (topS 26)) := ⟨rfl, rfl, rfl, by decide +kernel, rfl, by decide +kernel, by decide +kernel⟩
theorem ok__law_tape (B : Bi K mg cA)  {f : Addr} {fd : FuncData} (Fu : L2.Fun K "_law_tape" "_law_tape" (topS 26) f fd) : FnOk P w K mg base (L2.CX P w) 1 f fd ["script"] (SpD K cA 1 F__law_tape) :=
  have S := sc__law_tape
  fn_okN (cA := cA) (N := ["script", "tape", "cell", "rest", "turn", "many", "at"]) 1 6 Fu sc__law_tape rfl rfl (fun cdv A outer s H E X hX hr tk hp => by
    subst hX
    exact (ms_cons (ms_set (i := 1) S.nd rfl (by first | exact Or.inl rfl | exact Or.inr rfl) (me_lst ma_nil))
      (ms_cons (ms_for hp rfl (mi_seq rfl (me_scr rfl (pv 0))) (mg_name (pg_name (i := 2) S.nd rfl (by first | exact Or.inl rfl | exact Or.inr rfl))) (ms_cons (ms_set (i := 3) S.nd rfl (by first | exact Or.inl rfl | exact Or.inr rfl) (me_op2 op_mod s_mod (me_callB call_abs s_abs (by rfl) B.z_abs (by decide +kernel) (ma_cons (me_callTy call_int1 s_int (by rfl) B.z_int (by decide +kernel) (ma_cons (me_var (pv 2)) ma_nil)) ma_nil)) (me_op2 op_pow s_pow me_int me_int)))
      (ms_cons (ms_if (mt_op op_lt s_lt (me_callTy call_int1 s_int (by rfl) B.z_int (by decide +kernel) (ma_cons (me_var (pv 2)) ma_nil)) me_int (nomark _)) (ms_one (ms_set (i := 3) S.nd rfl (by first | exact Or.inl rfl | exact Or.inr rfl) (me_op2 o_add s_add (me_op2 o_mulA s_mulA (me_var (pv 3)) me_int) me_int))) ms_nil)
      (ms_one (ms_for hp rfl (mi_rng1 (by rfl) B.z_range (ma_cons me_int ma_nil)) (mg_name (pg_name (i := 4) S.nd rfl (by first | exact Or.inl rfl | exact Or.inr rfl))) (ms_cons (ms_expr (me_app (pv 1) (me_op2 op_mod s_mod (me_callTy call_int1 s_int (by rfl) B.z_int (by decide +kernel) (ma_cons (me_var (pv 3)) ma_nil)) me_int)))
      (ms_cons (ms_set (i := 3) S.nd rfl (by first | exact Or.inl rfl | exact Or.inr rfl) (me_op2 op_fdivW s_div (me_var (pv 3)) me_int))
      (ms_one (ms_if (mt_op (op_eqD (hu64 hr)) s_eq (me_var (pv 3)) me_int (nomark _)) (ms_one ms_break) ms_nil)))))))))
      (ms_cons (ms_set (i := 5) S.nd rfl (by first | exact Or.inl rfl | exact Or.inr rfl) (me_callB c_len s_len (by rfl) B.z_len (by decide +kernel) (ma_cons (me_var (pv 1)) ma_nil)))
      (ms_one (ms_ret (me_lc (own := [("at", 6)]) rfl S.nd (mi_rng1 (by rfl) B.z_range (ma_cons (me_var (pv 5)) ma_nil)) (by show BlkOk ["script", "tape", "cell", "rest", "turn", "many", "at"] (defScope (topS 26)) _ [("at", 6)]; exact ⟨rfl, by decide +kernel, by decide +kernel, by decide +kernel, by decide +kernel⟩) (fun _ _ _ _ _ => (mg_name (pg_name (i := 6) S.nd rfl (by first | exact Or.inl rfl | exact Or.inr rfl)))) (fun _ _ _ _ _ => pts_nil) (fun _ _ _ _ _ => (me_ix ix_seq s_ix (me_var (pv 1)) (me_op2 op_sub s_sub (me_op2 op_sub s_sub (me_var (pv 5)) me_int) (me_var (pv 6))))) tt_nil (by decide) (by decide))))))))
theorem sc_cut_to : FnScope ["pairs", "first", "last", "told", "low", "high"] ["pairs", "first", "last"] (defScope (topS 14)) := ⟨rfl, rfl, rfl, by decide +kernel, rfl, by decide +kernel, by decide +kernel⟩
theorem ok_cut_to (B : Bi K mg cA)  {f : Addr} {fd : FuncData} (Fu : L2.Fun K "cut_to" "cut_to" (topS 14) f fd) : FnOk P w K mg base (L2.CX P w) 1 f fd ["pairs", "first", "last"] (SpD K cA 3 F_cut_to) :=
  have S := sc_cut_to
  fn_okN (cA := cA) (N := ["pairs", "first", "last", "told", "low", "high"]) 3 3 Fu sc_cut_to rfl rfl (fun cdv A outer s H E X hX hr tk hp => by
    subst hX
    exact (ms_cons (ms_set (i := 3) S.nd rfl (by first | exact Or.inl rfl | exact Or.inr rfl) (me_lst ma_nil))
      (ms_cons (ms_for hp rfl (mi_seq rfl (me_var (pv 0))) (mg_tup (pg_tup rfl (pgs_cons (pg_name (i := 4) S.nd rfl (by first | exact Or.inl rfl | exact Or.inr rfl)) (pgs_cons (pg_name (i := 5) S.nd rfl (by first | exact Or.inl rfl | exact Or.inr rfl)) pgs_nil))) rfl) (ms_cons (ms_if (PW.pt (mw_and (mt_noN (me_var (pv 1))) (mw_and1 (mt_op op_lt s_lt (me_var (pv 4)) (me_var (pv 1)) (nomark _))))) (ms_one (ms_set (i := 4) S.nd rfl (by first | exact Or.inl rfl | exact Or.inr rfl) (me_var (pv 1)))) ms_nil)
      (ms_cons (ms_if (PW.pt (mw_and (mt_noN (me_var (pv 2))) (mw_and1 (mt_op op_gt s_gt (me_var (pv 5)) (me_var (pv 2)) (nomark _))))) (ms_one (ms_set (i := 5) S.nd rfl (by first | exact Or.inl rfl | exact Or.inr rfl) (me_var (pv 2)))) ms_nil)
      (ms_one (ms_if (mt_op op_le s_le (me_var (pv 4)) (me_var (pv 5)) (nomark _)) (ms_one (ms_expr (me_app (pv 3) (me_tup (ma_cons (me_var (pv 4)) (ma_cons (me_var (pv 5)) ma_nil)))))) ms_nil)))))
      (ms_one (ms_ret (me_var (pv 3)))))))
theorem sc_lot_cut : FnScope ["lot", "first", "last", "pairs"] ["lot", "first", "last"] (defScope (topS 23)) := ⟨rfl, rfl, rfl, by decide +kernel, rfl, by decide +kernel, by decide +kernel⟩
theorem ok_lot_cut (B : Bi K mg cA) (D_cut_to : Df P w K mg base cA "cut_to" 3 1 F_cut_to) (D_is_int : Df P w K mg base cA "is_int" 1 1 F_is_int) (D_joined_up : Df P w K mg base cA "joined_up" 1 1 F_joined_up) (D_pairs_of : Df P w K mg base cA "pairs_of" 1 9 F_pairs_of) (R_BadNumber : Rz P w K mg base cA "BadNumber" 2 "at" ini_BadNumber 7) {f : Addr} {fd : FuncData} (Fu : L2.Fun K "lot_cut" "lot_cut" (topS 23) f fd) : FnOk P w K mg base (L2.CX P w) 10 f fd ["lot", "first", "last"] (SpD K cA 3 F_lot_cut) :=
  have S := sc_lot_cut
  fn_okN (cA := cA) (N := ["lot", "first", "last", "pairs"]) 3 1 Fu sc_lot_cut rfl rfl (fun cdv A outer s H E X hX hr tk hp => by
    subst hX
    exact (ms_cons (ms_set (i := 3) S.nd rfl (by first | exact Or.inl rfl | exact Or.inr rfl) (me_callD D_pairs_of rfl (hr.mono (by decide)) (by rfl) tk (ma_cons (me_var (pv 0)) ma_nil)))
      (ms_cons (ms_if (PW.pt (mw_and (mt_noN (me_var (pv 1))) (mw_and1 (mt_not (mt_val (me_callD D_is_int rfl (hr.mono (by decide)) (by rfl) tk (ma_cons (me_var (pv 1)) ma_nil))))))) (ms_one (ms_raiseD R_BadNumber rfl (hr.mono (by decide)) tk rfl (by rfl) (me_var (pv 1)))) ms_nil)
      (ms_cons (ms_if (PW.pt (mw_and (mt_noN (me_var (pv 2))) (mw_and1 (mt_not (mt_val (me_callD D_is_int rfl (hr.mono (by decide)) (by rfl) tk (ma_cons (me_var (pv 2)) ma_nil))))))) (ms_one (ms_raiseD R_BadNumber rfl (hr.mono (by decide)) tk rfl (by rfl) (me_var (pv 2)))) ms_nil)
      (ms_one (ms_ret (me_callD D_joined_up rfl (hr.mono (by decide)) (by rfl) tk (ma_cons (me_callD D_cut_to rfl (hr.mono (by decide)) (by rfl) tk (ma_cons (me_var (pv 3)) (ma_cons (me_var (pv 1)) (ma_cons (me_var (pv 2)) ma_nil)))) ma_nil))))))))
theorem sc_lot_shift : FnScope ["lot", "by", "pairs", "first", "last"] ["lot", "by"] (defScope (topS 22)) := ⟨rfl, rfl, rfl, by decide +kernel, rfl, by decide +kernel, by decide +kernel⟩
theorem ok_lot_shift (B : Bi K mg cA) (D_is_int : Df P w K mg base cA "is_int" 1 1 F_is_int) (D_joined_up : Df P w K mg base cA "joined_up" 1 1 F_joined_up) (D_pairs_of : Df P w K mg base cA "pairs_of" 1 9 F_pairs_of) (R_BadNumber : Rz P w K mg base cA "BadNumber" 2 "at" ini_BadNumber 7) {f : Addr} {fd : FuncData} (Fu : L2.Fun K "lot_shift" "lot_shift" (topS 22) f fd) : FnOk P w K mg base (L2.CX P w) 10 f fd ["lot", "by"] (SpD K cA 2 F_lot_shift) :=
  have S := sc_lot_shift
  fn_okN (cA := cA) (N := ["lot", "by", "pairs", "first", "last"]) 2 3 Fu sc_lot_shift rfl rfl (fun cdv A outer s H E X hX hr tk hp => by
    subst hX
    exact (ms_cons (ms_set (i := 2) S.nd rfl (by first | exact Or.inl rfl | exact Or.inr rfl) (me_callD D_pairs_of rfl (hr.mono (by decide)) (by rfl) tk (ma_cons (me_var (pv 0)) ma_nil)))
      (ms_cons (ms_if (mt_not (mt_val (me_callD D_is_int rfl (hr.mono (by decide)) (by rfl) tk (ma_cons (me_var (pv 1)) ma_nil)))) (ms_one (ms_raiseD R_BadNumber rfl (hr.mono (by decide)) tk rfl (by rfl) (me_var (pv 1)))) ms_nil)
      (ms_one (ms_ret (me_callD D_joined_up rfl (hr.mono (by decide)) (by rfl) tk (ma_cons (me_lc (own := [("first", 3), ("last", 4)]) rfl S.nd (mi_seq rfl (me_var (pv 2))) (by show BlkOk ["lot", "by", "pairs", "first", "last"] (defScope (topS 22)) _ [("first", 3), ("last", 4)]; exact ⟨rfl, by decide +kernel, by decide +kernel, by decide +kernel, by decide +kernel⟩) (fun _ _ _ _ _ => (mg_tup (pg_tup rfl (pgs_cons (pg_name (i := 3) S.nd rfl (by first | exact Or.inl rfl | exact Or.inr rfl)) (pgs_cons (pg_name (i := 4) S.nd rfl (by first | exact Or.inl rfl | exact Or.inr rfl)) pgs_nil))) rfl)) (fun _ _ _ _ _ => pts_nil) (fun _ _ _ _ _ => (me_tup (ma_cons (me_op2 o_add s_add (me_var (pv 3)) (me_var (pv 1))) (ma_cons (me_op2 o_add s_add (me_var (pv 4)) (me_var (pv 1))) ma_nil)))) tt_nil (by decide) (by decide)) ma_nil)))))))
theorem sc_law : FnScope ["script", "tape", "lot", "other", "size", "move", "by", "way", "hours", "others", "great", "least", "turn", "first", "last", "due", "pair"] ["script"] (defScope (topS 40)) := ⟨rfl, rfl, rfl, by decide +kernel, rfl, by decide +kernel, by decide +kernel⟩
theorem ok_law (B : Bi K mg cA) (D__law_alone : Df P w K mg base cA "_law_alone" 5 11 F__law_alone) (D__law_as : Df P w K mg base cA "_law_as" 2 1 F__law_as) (D__law_blocks : Df P w K mg base cA "_law_blocks" 3 1 F__law_blocks) (D__law_clip : Df P w K mg base cA "_law_clip" 3 1 F__law_clip) (D__law_drawn : Df P w K mg base cA "_law_drawn" 1 3 F__law_drawn) (D__law_edge : Df P w K mg base cA "_law_edge" 3 2 F__law_edge) (D__law_hours : Df P w K mg base cA "_law_hours" 1 1 F__law_hours) (D__law_just : Df P w K mg base cA "_law_just" 2 1 F__law_just) (D__law_least_form : Df P w K mg base cA "_law_least_form" 1 1 F__law_least_form) (D__law_pair : Df P w K mg base cA "_law_pair" 7 11 F__law_pair) (D__law_take : Df P w K mg base cA "_law_take" 2 1 F__law_take) (D__law_tape : Df P w K mg base cA "_law_tape" 1 1 F__law_tape) (D_lot_cut : Df P w K mg base cA "lot_cut" 3 10 F_lot_cut) (D_lot_shift : Df P w K mg base cA "lot_shift" 2 10 F_lot_shift) {f : Addr} {fd : FuncData} (Fu : L2.Fun K "law" "law" (topS 40) f fd) : FnOk P w K mg base (L2.CX P w) 12 f fd ["script"] (SpD K cA 1 F_law) :=
  have S := sc_law
  fn_okN (cA := cA) (N := ["script", "tape", "lot", "other", "size", "move", "by", "way", "hours", "others", "great", "least", "turn", "first", "last", "due", "pair"]) 1 16 Fu sc_law rfl rfl (fun cdv A outer s H E X hX hr tk hp => by
    subst hX
    exact (ms_cons (ms_set (i := 1) S.nd rfl (by first | exact Or.inl rfl | exact Or.inr rfl) (me_callD D__law_tape rfl (hr.mono (by decide)) (by rfl) tk (ma_cons (me_varS (pv 0)) ma_nil)))
      (ms_cons (ms_set (i := 2) S.nd rfl (by first | exact Or.inl rfl | exact Or.inr rfl) (me_callBD D__law_drawn rfl (hr.mono (by decide)) (by rfl) tk (ma_cons (me_var (pv 1)) ma_nil)))
      (ms_cons (ms_set (i := 3) S.nd rfl (by first | exact Or.inl rfl | exact Or.inr rfl) (me_callBD D__law_drawn rfl (hr.mono (by decide)) (by rfl) tk (ma_cons (me_var (pv 1)) ma_nil)))
      (ms_cons (ms_set (i := 4) S.nd rfl (by first | exact Or.inl rfl | exact Or.inr rfl) (me_ix ix_seq s_ix (me_tup (ma_cons me_int (ma_cons me_int (ma_cons me_int (ma_cons (me_op2 op_pow s_pow me_int me_int) ma_nil))))) (me_callBD D__law_take rfl (hr.mono (by decide)) (by rfl) tk (ma_cons (me_var (pv 1)) (ma_cons me_int ma_nil)))))
      (ms_cons (ms_set (i := 5) S.nd rfl (by first | exact Or.inl rfl | exact Or.inr rfl) (me_ix ix_seq s_ix (me_tup (ma_cons me_int (ma_cons (me_un un_neg s_neg me_int) (ma_cons (me_op2 op_pow s_pow me_int me_int) ma_nil)))) (me_callBD D__law_take rfl (hr.mono (by decide)) (by rfl) tk (ma_cons (me_var (pv 1)) (ma_cons me_int ma_nil)))))
      (ms_cons (ms_set (i := 6) S.nd rfl (by first | exact Or.inl rfl | exact Or.inr rfl) (me_ix ix_seq s_ix (me_tup (ma_cons me_int (ma_cons (me_un un_neg s_neg me_int) (ma_cons me_int (ma_cons (me_op2 op_pow s_pow me_int me_int) ma_nil))))) (me_callBD D__law_take rfl (hr.mono (by decide)) (by rfl) tk (ma_cons (me_var (pv 1)) (ma_cons me_int ma_nil)))))
      (ms_cons (ms_set (i := 7) S.nd rfl (by first | exact Or.inl rfl | exact Or.inr rfl) (me_callBD D__law_take rfl (hr.mono (by decide)) (by rfl) tk (ma_cons (me_var (pv 1)) (ma_cons me_int ma_nil))))
      (ms_cons (ms_set (i := 8) S.nd rfl (by first | exact Or.inl rfl | exact Or.inr rfl) (me_callD D__law_hours rfl (hr.mono (by decide)) (by rfl) tk (ma_cons (me_var (pv 2)) ma_nil)))
      (ms_cons (ms_set (i := 9) S.nd rfl (by first | exact Or.inl rfl | exact Or.inr rfl) (me_callD D__law_hours rfl (hr.mono (by decide)) (by rfl) tk (ma_cons (me_var (pv 3)) ma_nil)))
      (ms_cons (ms_set (i := 10) S.nd rfl (by first | exact Or.inl rfl | exact Or.inr rfl) (me_callD D__law_blocks rfl (hr.mono (by decide)) (by rfl) tk (ma_cons (me_var (pv 2)) (ma_cons (me_var (pv 4)) (ma_cons (me_var (pv 5)) ma_nil)))))
      (ms_cons (ms_if (mt_not (mt_val (me_callD D__law_alone rfl (hr.mono (by decide)) (by rfl) tk (ma_cons (me_var (pv 10)) (ma_cons (me_var (pv 7)) (ma_cons (me_var (pv 8)) (ma_cons (me_var (pv 4)) (ma_cons (me_var (pv 5)) ma_nil)))))))) (ms_one (ms_ret me_bl)) ms_nil)
      (ms_cons (ms_if (mt_not (mt_val (me_callD D__law_alone rfl (hr.mono (by decide)) (by rfl) tk (ma_cons (me_callD D__law_blocks rfl (hr.mono (by decide)) (by rfl) tk (ma_cons (me_var (pv 3)) (ma_cons (me_var (pv 4)) (ma_cons (me_var (pv 5)) ma_nil)))) (ma_cons (me_op2 op_sub s_sub me_int (me_var (pv 7))) (ma_cons (me_var (pv 9)) (ma_cons (me_var (pv 4)) (ma_cons (me_var (pv 5)) ma_nil)))))))) (ms_one (ms_ret me_bl)) ms_nil)
      (ms_cons (ms_if (mt_not (mt_val (me_callD D__law_pair rfl (hr.mono (by decide)) (by rfl) tk (ma_cons (me_var (pv 10)) (ma_cons (me_callD D__law_blocks rfl (hr.mono (by decide)) (by rfl) tk (ma_cons (me_var (pv 3)) (ma_cons (me_var (pv 4)) (ma_cons (me_var (pv 5)) ma_nil)))) (ma_cons (me_var (pv 7)) (ma_cons (me_var (pv 8)) (ma_cons (me_var (pv 9)) (ma_cons (me_var (pv 4)) (ma_cons (me_var (pv 5)) ma_nil)))))))))) (ms_one (ms_ret me_bl)) ms_nil)
      (ms_cons (ms_set (i := 11) S.nd rfl (by first | exact Or.inl rfl | exact Or.inr rfl) (me_callD D__law_blocks rfl (hr.mono (by decide)) (by rfl) tk (ma_cons (me_callD D__law_least_form rfl (hr.mono (by decide)) (by rfl) tk (ma_cons (me_var (pv 8)) ma_nil)) (ma_cons (me_var (pv 4)) (ma_cons (me_var (pv 5)) ma_nil)))))
      (ms_cons (ms_if (mt_not (mt_val (me_callD D__law_just rfl (hr.mono (by decide)) (by rfl) tk (ma_cons (me_callD D_lot_shift rfl (hr.mono (by decide)) (by rfl) tk (ma_cons (me_callD D__law_as rfl (hr.mono (by decide)) (by rfl) tk (ma_cons (me_var (pv 10)) (ma_cons (me_var (pv 7)) ma_nil))) (ma_cons (me_var (pv 6)) ma_nil))) (ma_cons (me_callTy call_tuple_of s_tuple (by rfl) B.z_tuple (by decide +kernel) (ma_cons (me_lc (own := [("pair", 16)]) rfl S.nd (mi_seq rfl (me_var (pv 11))) (by show BlkOk ["script", "tape", "lot", "other", "size", "move", "by", "way", "hours", "others", "great", "least", "turn", "first", "last", "due", "pair"] (defScope (topS 40)) _ [("pair", 16)]; exact ⟨rfl, by decide +kernel, by decide +kernel, by decide +kernel, by decide +kernel⟩) (fun _ _ _ _ _ => (mg_name (pg_name (i := 16) S.nd rfl (by first | exact Or.inl rfl | exact Or.inr rfl)))) (fun _ _ _ _ _ => pts_nil) (fun _ _ _ _ _ => (me_tup (ma_cons (me_op2 o_add s_add (me_ix ix_seq s_ix (me_var (pv 16)) me_int) (me_var (pv 6))) (ma_cons (me_op2 o_add s_add (me_ix ix_seq s_ix (me_var (pv 16)) me_int) (me_var (pv 6))) ma_nil)))) tt_nil (by decide) (by decide)) ma_nil)) ma_nil))))) (ms_one (ms_ret me_bl)) ms_nil)
      (ms_cons (ms_for hp rfl (mi_rng1 (by rfl) B.z_range (ma_cons me_int ma_nil)) (mg_name (pg_name (i := 12) S.nd rfl (by first | exact Or.inl rfl | exact Or.inr rfl))) (ms_cons (ms_set (i := 13) S.nd rfl (by first | exact Or.inl rfl | exact Or.inr rfl) (me_callBD D__law_edge rfl (hr.mono (by decide)) (by rfl) tk (ma_cons (me_var (pv 1)) (ma_cons (me_var (pv 4)) (ma_cons (me_var (pv 5)) ma_nil)))))
      (ms_cons (ms_set (i := 14) S.nd rfl (by first | exact Or.inl rfl | exact Or.inr rfl) (me_callBD D__law_edge rfl (hr.mono (by decide)) (by rfl) tk (ma_cons (me_var (pv 1)) (ma_cons (me_var (pv 4)) (ma_cons (me_var (pv 5)) ma_nil)))))
      (ms_cons (ms_set (i := 15) S.nd rfl (by first | exact Or.inl rfl | exact Or.inr rfl) (me_callD D__law_clip rfl (hr.mono (by decide)) (by rfl) tk (ma_cons (me_var (pv 11)) (ma_cons (me_var (pv 13)) (ma_cons (me_var (pv 14)) ma_nil)))))
      (ms_one (ms_if (mt_not (mt_val (me_callD D__law_just rfl (hr.mono (by decide)) (by rfl) tk (ma_cons (me_callD D_lot_cut rfl (hr.mono (by decide)) (by rfl) tk (ma_cons (me_callD D__law_as rfl (hr.mono (by decide)) (by rfl) tk (ma_cons (me_var (pv 10)) (ma_cons (me_var (pv 7)) ma_nil))) (ma_cons (me_var (pv 13)) (ma_cons (me_var (pv 14)) ma_nil)))) (ma_cons (me_var (pv 15)) ma_nil))))) (ms_one (ms_ret me_bl)) ms_nil))))))
      (ms_one (ms_ret me_bl)))))))))))))))))))
end
def cAf (l : List Addr) (k : Nat) : Addr := l.getD k 0
theorem bn__law_as : Bnd (topS 34) "_law_as" "_law_as" ["lot", "way"] := fun _ _ _ _ _ _ us hl => match us, hl with | [_, _], _ => rfl
theorem bn__law_blocks : Bnd (topS 33) "_law_blocks" "_law_blocks" ["lot", "size", "move"] := fun _ _ _ _ _ _ us hl => match us, hl with | [_, _, _], _ => rfl
theorem bn__law_least_form : Bnd (topS 29) "_law_least_form" "_law_least_form" ["hours"] := fun _ _ _ _ _ _ us hl => match us, hl with | [_], _ => rfl
theorem bn__law_gaps : Bnd (topS 36) "_law_gaps" "_law_gaps" ["hours"] := fun _ _ _ _ _ _ us hl => match us, hl with | [_], _ => rfl
theorem bn__law_just : Bnd (topS 31) "_law_just" "_law_just" ["told", "due"] := fun _ _ _ _ _ _ us hl => match us, hl with | [_, _], _ => rfl
theorem bn_joined_up : Bnd (topS 12) "joined_up" "joined_up" ["pairs"] := fun _ _ _ _ _ _ us hl => match us, hl with | [_], _ => rfl
theorem bn_tupled : Bnd (topS 1) "tupled" "tupled" ["thing"] := fun _ _ _ _ _ _ us hl => match us, hl with | [_], _ => rfl
theorem bn_is_int : Bnd (topS 6) "is_int" "is_int" ["x"] := fun _ _ _ _ _ _ us hl => match us, hl with | [_], _ => rfl
theorem bn_is_stretch : Bnd (topS 8) "is_stretch" "is_stretch" ["entry"] := fun _ _ _ _ _ _ us hl => match us, hl with | [_], _ => rfl
theorem bn_lot_fault : Bnd (topS 9) "lot_fault" "lot_fault" ["lot"] := fun _ _ _ _ _ _ us hl => match us, hl with | [_], _ => rfl
theorem bn_pairs_of : Bnd (topS 10) "pairs_of" "pairs_of" ["lot"] := fun _ _ _ _ _ _ us hl => match us, hl with | [_], _ => rfl
theorem bn_first_hour : Bnd (topS 18) "first_hour" "first_hour" ["lot"] := fun _ _ _ _ _ _ us hl => match us, hl with | [_], _ => rfl
theorem bn_has_hour : Bnd (topS 16) "has_hour" "has_hour" ["lot", "h"] := fun _ _ _ _ _ _ us hl => match us, hl with | [_, _], _ => rfl
theorem bn_last_hour : Bnd (topS 19) "last_hour" "last_hour" ["lot"] := fun _ _ _ _ _ _ us hl => match us, hl with | [_], _ => rfl
theorem bn_least_form : Bnd (topS 15) "least_form" "least_form" ["lot"] := fun _ _ _ _ _ _ us hl => match us, hl with | [_], _ => rfl
theorem bn_lot_count : Bnd (topS 17) "lot_count" "lot_count" ["lot"] := fun _ _ _ _ _ _ us hl => match us, hl with | [_], _ => rfl
theorem bn_lot_holes : Bnd (topS 24) "lot_holes" "lot_holes" ["lot"] := fun _ _ _ _ _ _ us hl => match us, hl with | [_], _ => rfl
theorem bn__law_alone : Bnd (topS 38) "_law_alone" "_law_alone" ["great", "way", "hours", "size", "move"] := fun _ _ _ _ _ _ us hl => match us, hl with | [_, _, _, _, _], _ => rfl
theorem bn__law_clip : Bnd (topS 35) "_law_clip" "_law_clip" ["lot", "first", "last"] := fun _ _ _ _ _ _ us hl => match us, hl with | [_, _, _], _ => rfl
theorem bn__law_take : Bnd (topS 27) "_law_take" "_law_take" ["tape", "many"] := fun _ _ _ _ _ _ us hl => match us, hl with | [_, _], _ => rfl
theorem bn__law_lot : Bnd (topS 30) "_law_lot" "_law_lot" ["tape", "many", "wide"] := fun _ _ _ _ _ _ us hl => match us, hl with | [_, _, _], _ => rfl
theorem bn__law_drawn : Bnd (topS 32) "_law_drawn" "_law_drawn" ["tape"] := fun _ _ _ _ _ _ us hl => match us, hl with | [_], _ => rfl
theorem bn__law_edge : Bnd (topS 37) "_law_edge" "_law_edge" ["tape", "size", "move"] := fun _ _ _ _ _ _ us hl => match us, hl with | [_, _, _], _ => rfl
theorem bn__law_hours : Bnd (topS 28) "_law_hours" "_law_hours" ["lot"] := fun _ _ _ _ _ _ us hl => match us, hl with | [_], _ => rfl
theorem bn_other_pairs_of : Bnd (topS 11) "other_pairs_of" "other_pairs_of" ["lot"] := fun _ _ _ _ _ _ us hl => match us, hl with | [_], _ => rfl
theorem bn_shared_by : Bnd (topS 13) "shared_by" "shared_by" ["one", "two"] := fun _ _ _ _ _ _ us hl => match us, hl with | [_, _], _ => rfl
theorem bn_lot_meet : Bnd (topS 21) "lot_meet" "lot_meet" ["lot", "other"] := fun _ _ _ _ _ _ us hl => match us, hl with | [_, _], _ => rfl
theorem bn_lot_union : Bnd (topS 20) "lot_union" "lot_union" ["lot", "other"] := fun _ _ _ _ _ _ us hl => match us, hl with | [_, _], _ => rfl
theorem bn__law_pair : Bnd (topS 39) "_law_pair" "_law_pair" ["great", "other", "way", "hours", "others", "size", "move"] := fun _ _ _ _ _ _ us hl => match us, hl with | [_, _, _, _, _, _, _], _ => rfl
theorem bn__law_tape : Bnd (topS 26) "_law_tape" "_law_tape" ["script"] := fun _ _ _ _ _ _ us hl => match us, hl with | [_], _ => rfl
theorem bn_cut_to : Bnd (topS 14) "cut_to" "cut_to" ["pairs", "first", "last"] := fun _ _ _ _ _ _ us hl => match us, hl with | [_, _, _], _ => rfl
theorem bn_lot_cut : Bnd (topS 23) "lot_cut" "lot_cut" ["lot", "first", "last"] := fun _ _ _ _ _ _ us hl => match us, hl with | [_, _, _], _ => rfl
theorem bn_lot_shift : Bnd (topS 22) "lot_shift" "lot_shift" ["lot", "by"] := fun _ _ _ _ _ _ us hl => match us, hl with | [_, _], _ => rfl
theorem bn_law : Bnd (topS 40) "law" "law" ["script"] := fun _ _ _ _ _ _ us hl => match us, hl with | [_], _ => rfl
theorem bi_BadHours : Bnd (meth (topS 4) 0) "__init__" "BadHours.__init__" ["self", "at"] := fun _ _ _ _ _ _ us hl => match us, hl with | [_, _], _ => rfl
theorem si_BadHours : FnScope ["self", "at"] ["self", "at"] (defScope (meth (topS 4) 0)) := ⟨rfl, rfl, rfl, by decide +kernel, rfl, by decide +kernel, by decide +kernel⟩
theorem bi_BadNumber : Bnd (meth (topS 3) 0) "__init__" "BadNumber.__init__" ["self", "at"] := fun _ _ _ _ _ _ us hl => match us, hl with | [_, _], _ => rfl
theorem si_BadNumber : FnScope ["self", "at"] ["self", "at"] (defScope (meth (topS 3) 0)) := ⟨rfl, rfl, rfl, by decide +kernel, rfl, by decide +kernel, by decide +kernel⟩
def spLaw (K : PySem.W.Frag) : Sp := fun vs H Q E => ∃ (a : Addr) (ns : List Int), vs = [.ref a] ∧ SqL K H a (ns.map V.int) ∧ ns.length ≤ 63 ∧ ∀ H', Q (.bl true) H'
theorem all_mk (law_true : ∀ ns : List Int, ns.length ≤ 63 → F_law [.scr ns] = .ok (.fro (.bool true)) none) {P : Program} {w : World} {K : PySem.W.Frag} {h : Heap} {mg : Str → Option Value} {fa : Addr} (X : K.In h) (G : h.Ns mainGlobals mg) (hfa : mg "law" = some (.ref fa))
    {C_DoneError C_BadNumber C_BadHours I_BadHours I_BadNumber f__law_as f__law_blocks f__law_least_form f__law_gaps f__law_just f_joined_up f_tupled f_is_int f_is_stretch f_lot_fault f_pairs_of f_first_hour f_has_hour f_last_hour f_least_form f_lot_count f_lot_holes f__law_alone f__law_clip f__law_take f__law_lot f__law_drawn f__law_edge f__law_hours f_other_pairs_of f_shared_by f_lot_meet f_lot_union f__law_pair f__law_tape f_cut_to f_lot_cut f_lot_shift f_law : Addr}
    (a_DoneError : PySem.W.nsIn K mainGlobals "DoneError" = some (some (.ref C_DoneError)))
    (a_BadNumber : PySem.W.nsIn K mainGlobals "BadNumber" = some (some (.ref C_BadNumber)))
    (a_BadHours : PySem.W.nsIn K mainGlobals "BadHours" = some (some (.ref C_BadHours)))
    (e_DoneError : ErC K C_DoneError)
    (e_BadNumber : ErC K C_BadNumber)
    (e_BadHours : ErC K C_BadHours)
    (kt_1_0 : PySem.W.kitOne K (.ref C_DoneError) (.type "ValueError") = some true)
    (ex_1_0 : PySem.W.exmOne K (.ref C_DoneError) (.type "ValueError") = some true)
    (kt_1_1 : PySem.W.kitOne K (.ref C_DoneError) (.ref C_DoneError) = some true)
    (ex_1_1 : PySem.W.exmOne K (.ref C_DoneError) (.ref C_DoneError) = some true)
    (kt_1_2 : PySem.W.kitOne K (.ref C_DoneError) (.ref C_BadNumber) = some false)
    (ex_1_2 : PySem.W.exmOne K (.ref C_DoneError) (.ref C_BadNumber) = some false)
    (kt_1_3 : PySem.W.kitOne K (.ref C_DoneError) (.ref C_BadHours) = some false)
    (ex_1_3 : PySem.W.exmOne K (.ref C_DoneError) (.ref C_BadHours) = some false)
    (f_1_at : PySem.W.findIn K (.ref C_DoneError) "at" = some none)
    (f_1_limit : PySem.W.findIn K (.ref C_DoneError) "limit" = some none)
    (f_1_line : PySem.W.findIn K (.ref C_DoneError) "line" = some none)
    (kt_2_0 : PySem.W.kitOne K (.ref C_BadNumber) (.type "ValueError") = some true)
    (ex_2_0 : PySem.W.exmOne K (.ref C_BadNumber) (.type "ValueError") = some true)
    (kt_2_1 : PySem.W.kitOne K (.ref C_BadNumber) (.ref C_DoneError) = some true)
    (ex_2_1 : PySem.W.exmOne K (.ref C_BadNumber) (.ref C_DoneError) = some true)
    (kt_2_2 : PySem.W.kitOne K (.ref C_BadNumber) (.ref C_BadNumber) = some true)
    (ex_2_2 : PySem.W.exmOne K (.ref C_BadNumber) (.ref C_BadNumber) = some true)
    (kt_2_3 : PySem.W.kitOne K (.ref C_BadNumber) (.ref C_BadHours) = some false)
    (ex_2_3 : PySem.W.exmOne K (.ref C_BadNumber) (.ref C_BadHours) = some false)
    (f_2_at : PySem.W.findIn K (.ref C_BadNumber) "at" = some none)
    (f_2_limit : PySem.W.findIn K (.ref C_BadNumber) "limit" = some none)
    (f_2_line : PySem.W.findIn K (.ref C_BadNumber) "line" = some none)
    (kt_3_0 : PySem.W.kitOne K (.ref C_BadHours) (.type "ValueError") = some true)
    (ex_3_0 : PySem.W.exmOne K (.ref C_BadHours) (.type "ValueError") = some true)
    (kt_3_1 : PySem.W.kitOne K (.ref C_BadHours) (.ref C_DoneError) = some true)
    (ex_3_1 : PySem.W.exmOne K (.ref C_BadHours) (.ref C_DoneError) = some true)
    (kt_3_2 : PySem.W.kitOne K (.ref C_BadHours) (.ref C_BadNumber) = some false)
    (ex_3_2 : PySem.W.exmOne K (.ref C_BadHours) (.ref C_BadNumber) = some false)
    (kt_3_3 : PySem.W.kitOne K (.ref C_BadHours) (.ref C_BadHours) = some true)
    (ex_3_3 : PySem.W.exmOne K (.ref C_BadHours) (.ref C_BadHours) = some true)
    (f_3_at : PySem.W.findIn K (.ref C_BadHours) "at" = some none)
    (f_3_limit : PySem.W.findIn K (.ref C_BadHours) "limit" = some none)
    (f_3_line : PySem.W.findIn K (.ref C_BadHours) "line" = some none)
    (o_BadHours : OexC K C_BadHours)
    (i_BadHours : PySem.W.findIn K (.ref C_BadHours) "__init__" = some (some (.ref I_BadHours)))
    (t_BadHours : PySem.W.typeIn K (.ref I_BadHours) = some (.type "function"))
    (d_BadHours : DefAt K "__init__" "BadHours.__init__" (meth (topS 4) 0) I_BadHours)
    (o_BadNumber : OexC K C_BadNumber)
    (i_BadNumber : PySem.W.findIn K (.ref C_BadNumber) "__init__" = some (some (.ref I_BadNumber)))
    (t_BadNumber : PySem.W.typeIn K (.ref I_BadNumber) = some (.type "function"))
    (d_BadNumber : DefAt K "__init__" "BadNumber.__init__" (meth (topS 3) 0) I_BadNumber)
    (a__law_as : PySem.W.nsIn K mainGlobals "_law_as" = some (some (.ref f__law_as)))
    (d__law_as : DefAt K "_law_as" "_law_as" (topS 34) f__law_as)
    (a__law_blocks : PySem.W.nsIn K mainGlobals "_law_blocks" = some (some (.ref f__law_blocks)))
    (d__law_blocks : DefAt K "_law_blocks" "_law_blocks" (topS 33) f__law_blocks)
    (a__law_least_form : PySem.W.nsIn K mainGlobals "_law_least_form" = some (some (.ref f__law_least_form)))
    (d__law_least_form : DefAt K "_law_least_form" "_law_least_form" (topS 29) f__law_least_form)
    (a__law_gaps : PySem.W.nsIn K mainGlobals "_law_gaps" = some (some (.ref f__law_gaps)))
    (d__law_gaps : DefAt K "_law_gaps" "_law_gaps" (topS 36) f__law_gaps)
    (a__law_just : PySem.W.nsIn K mainGlobals "_law_just" = some (some (.ref f__law_just)))
    (d__law_just : DefAt K "_law_just" "_law_just" (topS 31) f__law_just)
    (a_joined_up : PySem.W.nsIn K mainGlobals "joined_up" = some (some (.ref f_joined_up)))
    (d_joined_up : DefAt K "joined_up" "joined_up" (topS 12) f_joined_up)
    (a_tupled : PySem.W.nsIn K mainGlobals "tupled" = some (some (.ref f_tupled)))
    (d_tupled : DefAt K "tupled" "tupled" (topS 1) f_tupled)
    (a_is_int : PySem.W.nsIn K mainGlobals "is_int" = some (some (.ref f_is_int)))
    (d_is_int : DefAt K "is_int" "is_int" (topS 6) f_is_int)
    (a_is_stretch : PySem.W.nsIn K mainGlobals "is_stretch" = some (some (.ref f_is_stretch)))
    (d_is_stretch : DefAt K "is_stretch" "is_stretch" (topS 8) f_is_stretch)
    (a_lot_fault : PySem.W.nsIn K mainGlobals "lot_fault" = some (some (.ref f_lot_fault)))
    (d_lot_fault : DefAt K "lot_fault" "lot_fault" (topS 9) f_lot_fault)
    (a_pairs_of : PySem.W.nsIn K mainGlobals "pairs_of" = some (some (.ref f_pairs_of)))
    (d_pairs_of : DefAt K "pairs_of" "pairs_of" (topS 10) f_pairs_of)
    (a_first_hour : PySem.W.nsIn K mainGlobals "first_hour" = some (some (.ref f_first_hour)))
    (d_first_hour : DefAt K "first_hour" "first_hour" (topS 18) f_first_hour)
    (a_has_hour : PySem.W.nsIn K mainGlobals "has_hour" = some (some (.ref f_has_hour)))
    (d_has_hour : DefAt K "has_hour" "has_hour" (topS 16) f_has_hour)
    (a_last_hour : PySem.W.nsIn K mainGlobals "last_hour" = some (some (.ref f_last_hour)))
    (d_last_hour : DefAt K "last_hour" "last_hour" (topS 19) f_last_hour)
    (a_least_form : PySem.W.nsIn K mainGlobals "least_form" = some (some (.ref f_least_form)))
    (d_least_form : DefAt K "least_form" "least_form" (topS 15) f_least_form)
    (a_lot_count : PySem.W.nsIn K mainGlobals "lot_count" = some (some (.ref f_lot_count)))
    (d_lot_count : DefAt K "lot_count" "lot_count" (topS 17) f_lot_count)
    (a_lot_holes : PySem.W.nsIn K mainGlobals "lot_holes" = some (some (.ref f_lot_holes)))
    (d_lot_holes : DefAt K "lot_holes" "lot_holes" (topS 24) f_lot_holes)
    (a__law_alone : PySem.W.nsIn K mainGlobals "_law_alone" = some (some (.ref f__law_alone)))
    (d__law_alone : DefAt K "_law_alone" "_law_alone" (topS 38) f__law_alone)
    (a__law_clip : PySem.W.nsIn K mainGlobals "_law_clip" = some (some (.ref f__law_clip)))
    (d__law_clip : DefAt K "_law_clip" "_law_clip" (topS 35) f__law_clip)
    (a__law_take : PySem.W.nsIn K mainGlobals "_law_take" = some (some (.ref f__law_take)))
    (d__law_take : DefAt K "_law_take" "_law_take" (topS 27) f__law_take)
    (a__law_lot : PySem.W.nsIn K mainGlobals "_law_lot" = some (some (.ref f__law_lot)))
    (d__law_lot : DefAt K "_law_lot" "_law_lot" (topS 30) f__law_lot)
    (a__law_drawn : PySem.W.nsIn K mainGlobals "_law_drawn" = some (some (.ref f__law_drawn)))
    (d__law_drawn : DefAt K "_law_drawn" "_law_drawn" (topS 32) f__law_drawn)
    (a__law_edge : PySem.W.nsIn K mainGlobals "_law_edge" = some (some (.ref f__law_edge)))
    (d__law_edge : DefAt K "_law_edge" "_law_edge" (topS 37) f__law_edge)
    (a__law_hours : PySem.W.nsIn K mainGlobals "_law_hours" = some (some (.ref f__law_hours)))
    (d__law_hours : DefAt K "_law_hours" "_law_hours" (topS 28) f__law_hours)
    (a_other_pairs_of : PySem.W.nsIn K mainGlobals "other_pairs_of" = some (some (.ref f_other_pairs_of)))
    (d_other_pairs_of : DefAt K "other_pairs_of" "other_pairs_of" (topS 11) f_other_pairs_of)
    (a_shared_by : PySem.W.nsIn K mainGlobals "shared_by" = some (some (.ref f_shared_by)))
    (d_shared_by : DefAt K "shared_by" "shared_by" (topS 13) f_shared_by)
    (a_lot_meet : PySem.W.nsIn K mainGlobals "lot_meet" = some (some (.ref f_lot_meet)))
    (d_lot_meet : DefAt K "lot_meet" "lot_meet" (topS 21) f_lot_meet)
    (a_lot_union : PySem.W.nsIn K mainGlobals "lot_union" = some (some (.ref f_lot_union)))
    (d_lot_union : DefAt K "lot_union" "lot_union" (topS 20) f_lot_union)
    (a__law_pair : PySem.W.nsIn K mainGlobals "_law_pair" = some (some (.ref f__law_pair)))
    (d__law_pair : DefAt K "_law_pair" "_law_pair" (topS 39) f__law_pair)
    (a__law_tape : PySem.W.nsIn K mainGlobals "_law_tape" = some (some (.ref f__law_tape)))
    (d__law_tape : DefAt K "_law_tape" "_law_tape" (topS 26) f__law_tape)
    (a_cut_to : PySem.W.nsIn K mainGlobals "cut_to" = some (some (.ref f_cut_to)))
    (d_cut_to : DefAt K "cut_to" "cut_to" (topS 14) f_cut_to)
    (a_lot_cut : PySem.W.nsIn K mainGlobals "lot_cut" = some (some (.ref f_lot_cut)))
    (d_lot_cut : DefAt K "lot_cut" "lot_cut" (topS 23) f_lot_cut)
    (a_lot_shift : PySem.W.nsIn K mainGlobals "lot_shift" = some (some (.ref f_lot_shift)))
    (d_lot_shift : DefAt K "lot_shift" "lot_shift" (topS 22) f_lot_shift)
    (a_law : PySem.W.nsIn K mainGlobals "law" = some (some (.ref f_law)))
    (d_law : DefAt K "law" "law" (topS 40) f_law)
    (z_abs : PySem.W.nsIn K mainGlobals "abs" = some none)
    (z_bool : PySem.W.nsIn K mainGlobals "bool" = some none)
    (z_enumerate : PySem.W.nsIn K mainGlobals "enumerate" = some none)
    (z_int : PySem.W.nsIn K mainGlobals "int" = some none)
    (z_isinstance : PySem.W.nsIn K mainGlobals "isinstance" = some none)
    (z_len : PySem.W.nsIn K mainGlobals "len" = some none)
    (z_list : PySem.W.nsIn K mainGlobals "list" = some none)
    (z_max : PySem.W.nsIn K mainGlobals "max" = some none)
    (z_min : PySem.W.nsIn K mainGlobals "min" = some none)
    (z_range : PySem.W.nsIn K mainGlobals "range" = some none)
    (z_set : PySem.W.nsIn K mainGlobals "set" = some none)
    (z_sorted : PySem.W.nsIn K mainGlobals "sorted" = some none)
    (z_str : PySem.W.nsIn K mainGlobals "str" = some none)
    (z_sum : PySem.W.nsIn K mainGlobals "sum" = some none)
    (z_tuple : PySem.W.nsIn K mainGlobals "tuple" = some none) :
    ∃ fd : FuncData, (∀ (s : Shared) (v : Value), BindsTo s fd ⟨[v], []⟩ [("script", v)]) ∧ ∀ base : Heap, K.In base → base.Ns mainGlobals mg → FnOk P w K mg base (L2.CX P w) 12 fa fd ["script"] (spLaw K) := by
  have e := hfa.symm.trans (PySem.W.mg_of X G a_law)
  cases e
  have B : Bi K mg (cAf [0, C_DoneError, C_BadNumber, C_BadHours]) := {
    z_abs := PySem.W.mg_none_of X G z_abs
    z_bool := PySem.W.mg_none_of X G z_bool
    z_enumerate := PySem.W.mg_none_of X G z_enumerate
    z_int := PySem.W.mg_none_of X G z_int
    z_isinstance := PySem.W.mg_none_of X G z_isinstance
    z_len := PySem.W.mg_none_of X G z_len
    z_list := PySem.W.mg_none_of X G z_list
    z_max := PySem.W.mg_none_of X G z_max
    z_min := PySem.W.mg_none_of X G z_min
    z_range := PySem.W.mg_none_of X G z_range
    z_set := PySem.W.mg_none_of X G z_set
    z_sorted := PySem.W.mg_none_of X G z_sorted
    z_str := PySem.W.mg_none_of X G z_str
    z_sum := PySem.W.mg_none_of X G z_sum
    z_tuple := PySem.W.mg_none_of X G z_tuple

    m_DoneError := PySem.W.mg_of X G a_DoneError
    m_BadNumber := PySem.W.mg_of X G a_BadNumber
    m_BadHours := PySem.W.mg_of X G a_BadHours
    errs := {
      er := fun k h1 h2 => match k, h1, h2 with
        | 0, h1, _ => absurd h1 (by decide)
        | 1, _, _ => e_DoneError
        | 2, _, _ => e_BadNumber
        | 3, _, _ => e_BadHours
        | k + 4, _, h => absurd h (by omega)
      kit := fun k h1 h2 j h3 => match k, h1, h2, j, h3 with
        | 0, h1, _, _, _ => absurd h1 (by decide)
        | 1, _, _, 0, _ => kt_1_0
        | 1, _, _, 1, _ => kt_1_1
        | 1, _, _, 2, _ => kt_1_2
        | 1, _, _, 3, _ => kt_1_3
        | 2, _, _, 0, _ => kt_2_0
        | 2, _, _, 1, _ => kt_2_1
        | 2, _, _, 2, _ => kt_2_2
        | 2, _, _, 3, _ => kt_2_3
        | 3, _, _, 0, _ => kt_3_0
        | 3, _, _, 1, _ => kt_3_1
        | 3, _, _, 2, _ => kt_3_2
        | 3, _, _, 3, _ => kt_3_3
        | k + 4, _, h, _, _ => absurd h (by omega)
        | _, _, _, j + 4, h => absurd h (by omega)
      exm := fun k h1 h2 j h3 => match k, h1, h2, j, h3 with
        | 0, h1, _, _, _ => absurd h1 (by decide)
        | 1, _, _, 0, _ => ex_1_0
        | 1, _, _, 1, _ => ex_1_1
        | 1, _, _, 2, _ => ex_1_2
        | 1, _, _, 3, _ => ex_1_3
        | 2, _, _, 0, _ => ex_2_0
        | 2, _, _, 1, _ => ex_2_1
        | 2, _, _, 2, _ => ex_2_2
        | 2, _, _, 3, _ => ex_2_3
        | 3, _, _, 0, _ => ex_3_0
        | 3, _, _, 1, _ => ex_3_1
        | 3, _, _, 2, _ => ex_3_2
        | 3, _, _, 3, _ => ex_3_3
        | k + 4, _, h, _, _ => absurd h (by omega)
        | _, _, _, j + 4, h => absurd h (by omega)
      f1 := fun k h1 h2 f hf => match k, h1, h2 with
        | 0, h1, _ => absurd h1 (by decide)
        | 1, _, _ => by rcases hf with rfl | rfl | rfl; exact f_1_at; exact f_1_limit; exact f_1_line
        | 2, _, _ => by rcases hf with rfl | rfl | rfl; exact f_2_at; exact f_2_limit; exact f_2_line
        | 3, _, _ => by rcases hf with rfl | rfl | rfl; exact f_3_at; exact f_3_limit; exact f_3_line
        | k + 4, _, h => absurd h (by omega) } }
  obtain ⟨fd, Fu⟩ := d_law.fn
  refine ⟨fd, fun s v => ?_, fun base _ _ => ?_⟩
  · obtain ⟨oc, od, kV, doc, pm, an, cdv, ct, osl, rfl, _⟩ := Fu.ex
    exact .of_eq rfl
  · have D__law_as : Df P w K mg base (cAf [0, C_DoneError, C_BadNumber, C_BadHours]) "_law_as" 2 1 F__law_as := df_mk d__law_as bn__law_as (PySem.W.mg_of X G a__law_as) fdN_len fun fd Fu => ok__law_as B  Fu
    have D__law_blocks : Df P w K mg base (cAf [0, C_DoneError, C_BadNumber, C_BadHours]) "_law_blocks" 3 1 F__law_blocks := df_mk d__law_blocks bn__law_blocks (PySem.W.mg_of X G a__law_blocks) fdN_len fun fd Fu => ok__law_blocks B  Fu
    have D__law_least_form : Df P w K mg base (cAf [0, C_DoneError, C_BadNumber, C_BadHours]) "_law_least_form" 1 1 F__law_least_form := df_mk d__law_least_form bn__law_least_form (PySem.W.mg_of X G a__law_least_form) fdN_len fun fd Fu => ok__law_least_form B  Fu
    have D__law_gaps : Df P w K mg base (cAf [0, C_DoneError, C_BadNumber, C_BadHours]) "_law_gaps" 1 2 F__law_gaps := df_mk d__law_gaps bn__law_gaps (PySem.W.mg_of X G a__law_gaps) fdN_len fun fd Fu => ok__law_gaps B D__law_least_form Fu
    have D__law_just : Df P w K mg base (cAf [0, C_DoneError, C_BadNumber, C_BadHours]) "_law_just" 2 1 F__law_just := df_mk d__law_just bn__law_just (PySem.W.mg_of X G a__law_just) fdN_len fun fd Fu => ok__law_just B  Fu
    have D_joined_up : Df P w K mg base (cAf [0, C_DoneError, C_BadNumber, C_BadHours]) "joined_up" 1 1 F_joined_up := df_mk d_joined_up bn_joined_up (PySem.W.mg_of X G a_joined_up) fdN_len fun fd Fu => ok_joined_up B  Fu
    have D_tupled : Df P w K mg base (cAf [0, C_DoneError, C_BadNumber, C_BadHours]) "tupled" 1 6 (F_tupled 6) := df_rec (F := F_tupled) d_tupled bn_tupled (PySem.W.mg_of X G a_tupled) rfl (fun m => match m with | 0 => fun _ _ => rfl | m + 1 => fdN_len) (fun m D fd Fu => ok_tupled B  m D Fu) 6
    have R_BadHours : Rz P w K mg base (cAf [0, C_DoneError, C_BadNumber, C_BadHours]) "BadHours" 3 "at" ini_BadHours 7 := by
      obtain ⟨fd, Fu⟩ := d_BadHours.fn
      exact ⟨⟨_, fd, _, o_BadHours, i_BadHours, t_BadHours, f_3_at, ok_BadHours B D_tupled Fu si_BadHours, Fu.binds bi_BadHours⟩, B.m_BadHours⟩
    have D_is_int : Df P w K mg base (cAf [0, C_DoneError, C_BadNumber, C_BadHours]) "is_int" 1 1 F_is_int := df_mk d_is_int bn_is_int (PySem.W.mg_of X G a_is_int) fdN_len fun fd Fu => ok_is_int B  Fu
    have D_is_stretch : Df P w K mg base (cAf [0, C_DoneError, C_BadNumber, C_BadHours]) "is_stretch" 1 2 F_is_stretch := df_mk d_is_stretch bn_is_stretch (PySem.W.mg_of X G a_is_stretch) fdN_len fun fd Fu => ok_is_stretch B D_is_int Fu
    have D_lot_fault : Df P w K mg base (cAf [0, C_DoneError, C_BadNumber, C_BadHours]) "lot_fault" 1 3 F_lot_fault := df_mk d_lot_fault bn_lot_fault (PySem.W.mg_of X G a_lot_fault) fdN_len fun fd Fu => ok_lot_fault B D_is_stretch Fu
    have D_pairs_of : Df P w K mg base (cAf [0, C_DoneError, C_BadNumber, C_BadHours]) "pairs_of" 1 9 F_pairs_of := df_mk d_pairs_of bn_pairs_of (PySem.W.mg_of X G a_pairs_of) fdN_len fun fd Fu => ok_pairs_of B D_lot_fault R_BadHours Fu
    have D_first_hour : Df P w K mg base (cAf [0, C_DoneError, C_BadNumber, C_BadHours]) "first_hour" 1 10 F_first_hour := df_mk d_first_hour bn_first_hour (PySem.W.mg_of X G a_first_hour) fdN_len fun fd Fu => ok_first_hour B D_joined_up D_pairs_of Fu
    have R_BadNumber : Rz P w K mg base (cAf [0, C_DoneError, C_BadNumber, C_BadHours]) "BadNumber" 2 "at" ini_BadNumber 7 := by
      obtain ⟨fd, Fu⟩ := d_BadNumber.fn
      exact ⟨⟨_, fd, _, o_BadNumber, i_BadNumber, t_BadNumber, f_2_at, ok_BadNumber B D_tupled Fu si_BadNumber, Fu.binds bi_BadNumber⟩, B.m_BadNumber⟩
    have D_has_hour : Df P w K mg base (cAf [0, C_DoneError, C_BadNumber, C_BadHours]) "has_hour" 2 10 F_has_hour := df_mk d_has_hour bn_has_hour (PySem.W.mg_of X G a_has_hour) fdN_len fun fd Fu => ok_has_hour B D_is_int D_pairs_of R_BadNumber Fu
    have D_last_hour : Df P w K mg base (cAf [0, C_DoneError, C_BadNumber, C_BadHours]) "last_hour" 1 10 F_last_hour := df_mk d_last_hour bn_last_hour (PySem.W.mg_of X G a_last_hour) fdN_len fun fd Fu => ok_last_hour B D_joined_up D_pairs_of Fu
    have D_least_form : Df P w K mg base (cAf [0, C_DoneError, C_BadNumber, C_BadHours]) "least_form" 1 10 F_least_form := df_mk d_least_form bn_least_form (PySem.W.mg_of X G a_least_form) fdN_len fun fd Fu => ok_least_form B D_joined_up D_pairs_of Fu
    have D_lot_count : Df P w K mg base (cAf [0, C_DoneError, C_BadNumber, C_BadHours]) "lot_count" 1 10 F_lot_count := df_mk d_lot_count bn_lot_count (PySem.W.mg_of X G a_lot_count) fdN_len fun fd Fu => ok_lot_count B D_joined_up D_pairs_of Fu
    have D_lot_holes : Df P w K mg base (cAf [0, C_DoneError, C_BadNumber, C_BadHours]) "lot_holes" 1 10 F_lot_holes := df_mk d_lot_holes bn_lot_holes (PySem.W.mg_of X G a_lot_holes) fdN_len fun fd Fu => ok_lot_holes B D_joined_up D_pairs_of Fu
    have D__law_alone : Df P w K mg base (cAf [0, C_DoneError, C_BadNumber, C_BadHours]) "_law_alone" 5 11 F__law_alone := df_mk d__law_alone bn__law_alone (PySem.W.mg_of X G a__law_alone) fdN_len fun fd Fu => ok__law_alone B D__law_as D__law_blocks D__law_gaps D__law_just D__law_least_form D_first_hour D_has_hour D_last_hour D_least_form D_lot_count D_lot_holes Fu
    have D__law_clip : Df P w K mg base (cAf [0, C_DoneError, C_BadNumber, C_BadHours]) "_law_clip" 3 1 F__law_clip := df_mk d__law_clip bn__law_clip (PySem.W.mg_of X G a__law_clip) fdN_len fun fd Fu => ok__law_clip B  Fu
    have D__law_take : Df P w K mg base (cAf [0, C_DoneError, C_BadNumber, C_BadHours]) "_law_take" 2 1 F__law_take := df_mk d__law_take bn__law_take (PySem.W.mg_of X G a__law_take) fdN_len fun fd Fu => ok__law_take B  Fu
    have D__law_lot : Df P w K mg base (cAf [0, C_DoneError, C_BadNumber, C_BadHours]) "_law_lot" 3 2 F__law_lot := df_mk d__law_lot bn__law_lot (PySem.W.mg_of X G a__law_lot) fdN_len fun fd Fu => ok__law_lot B D__law_take Fu
    have D__law_drawn : Df P w K mg base (cAf [0, C_DoneError, C_BadNumber, C_BadHours]) "_law_drawn" 1 3 F__law_drawn := df_mk d__law_drawn bn__law_drawn (PySem.W.mg_of X G a__law_drawn) fdN_len fun fd Fu => ok__law_drawn B D__law_lot D__law_take Fu
    have D__law_edge : Df P w K mg base (cAf [0, C_DoneError, C_BadNumber, C_BadHours]) "_law_edge" 3 2 F__law_edge := df_mk d__law_edge bn__law_edge (PySem.W.mg_of X G a__law_edge) fdN_len fun fd Fu => ok__law_edge B D__law_take Fu
    have D__law_hours : Df P w K mg base (cAf [0, C_DoneError, C_BadNumber, C_BadHours]) "_law_hours" 1 1 F__law_hours := df_mk d__law_hours bn__law_hours (PySem.W.mg_of X G a__law_hours) fdN_len fun fd Fu => ok__law_hours B  Fu
    have D_other_pairs_of : Df P w K mg base (cAf [0, C_DoneError, C_BadNumber, C_BadHours]) "other_pairs_of" 1 9 F_other_pairs_of := df_mk d_other_pairs_of bn_other_pairs_of (PySem.W.mg_of X G a_other_pairs_of) fdN_len fun fd Fu => ok_other_pairs_of B D_lot_fault R_BadHours Fu
    have D_shared_by : Df P w K mg base (cAf [0, C_DoneError, C_BadNumber, C_BadHours]) "shared_by" 2 1 F_shared_by := df_mk d_shared_by bn_shared_by (PySem.W.mg_of X G a_shared_by) fdN_len fun fd Fu => ok_shared_by B  Fu
    have D_lot_meet : Df P w K mg base (cAf [0, C_DoneError, C_BadNumber, C_BadHours]) "lot_meet" 2 10 F_lot_meet := df_mk d_lot_meet bn_lot_meet (PySem.W.mg_of X G a_lot_meet) fdN_len fun fd Fu => ok_lot_meet B D_joined_up D_other_pairs_of D_pairs_of D_shared_by Fu
    have D_lot_union : Df P w K mg base (cAf [0, C_DoneError, C_BadNumber, C_BadHours]) "lot_union" 2 10 F_lot_union := df_mk d_lot_union bn_lot_union (PySem.W.mg_of X G a_lot_union) fdN_len fun fd Fu => ok_lot_union B D_joined_up D_other_pairs_of D_pairs_of Fu
    have D__law_pair : Df P w K mg base (cAf [0, C_DoneError, C_BadNumber, C_BadHours]) "_law_pair" 7 11 F__law_pair := df_mk d__law_pair bn__law_pair (PySem.W.mg_of X G a__law_pair) fdN_len fun fd Fu => ok__law_pair B D__law_as D__law_blocks D__law_just D__law_least_form D_lot_meet D_lot_union Fu
    have D__law_tape : Df P w K mg base (cAf [0, C_DoneError, C_BadNumber, C_BadHours]) "_law_tape" 1 1 F__law_tape := df_mk d__law_tape bn__law_tape (PySem.W.mg_of X G a__law_tape) fdN_len fun fd Fu => ok__law_tape B  Fu
    have D_cut_to : Df P w K mg base (cAf [0, C_DoneError, C_BadNumber, C_BadHours]) "cut_to" 3 1 F_cut_to := df_mk d_cut_to bn_cut_to (PySem.W.mg_of X G a_cut_to) fdN_len fun fd Fu => ok_cut_to B  Fu
    have D_lot_cut : Df P w K mg base (cAf [0, C_DoneError, C_BadNumber, C_BadHours]) "lot_cut" 3 10 F_lot_cut := df_mk d_lot_cut bn_lot_cut (PySem.W.mg_of X G a_lot_cut) fdN_len fun fd Fu => ok_lot_cut B D_cut_to D_is_int D_joined_up D_pairs_of R_BadNumber Fu
    have D_lot_shift : Df P w K mg base (cAf [0, C_DoneError, C_BadNumber, C_BadHours]) "lot_shift" 2 10 F_lot_shift := df_mk d_lot_shift bn_lot_shift (PySem.W.mg_of X G a_lot_shift) fdN_len fun fd Fu => ok_lot_shift B D_is_int D_joined_up D_pairs_of R_BadNumber Fu
    refine (ok_law B D__law_alone D__law_as D__law_blocks D__law_clip D__law_drawn D__law_edge D__law_hours D__law_just D__law_least_form D__law_pair D__law_take D__law_tape D_lot_cut D_lot_shift Fu).imp fun vs H Q E q => ?_
    obtain ⟨a, ns, rfl, hS, hl, q⟩ := q
    refine frp_spD (as := [.scr ns]) rfl (Same.refl H) (.none (.scr hS .nil)) ?_
    rw [law_true ns hl]
    intro v H' Z' L rv
    have rv : Dq K Z' v (.bool true) := rv
    cases rv
    exact q H'
end G00
namespace G00
open PySem L2 Mw
theorem e_take : F__law_take = F_take := rfl
theorem e_tape : F__law_tape = F_tape := rfl
theorem e_just : F__law_just = F_just := rfl
theorem isint_i (n : Int) : F_is_int [.fro (.int n)] = .ok (.fro (.bool true)) none := rfl
def isI : D → Bool
  | .int _ => true
  | _ => false
theorem isint_d (d : D) (h : ∀ kvs, d ≠ .dict kvs) : F_is_int [.fro d] = .ok (.fro (.bool (isI d))) none := by
  cases d <;> first | rfl | exact absurd rfl (h _)
def iD (ns : List Int) : List D := ns.map PyData.int
theorem iD_len (ns : List Int) : (iD ns).length = ns.length := List.length_map _
theorem iD_get {ns : List Int} {i : Nat} (h : i < ns.length) : atI (iD ns) (i : Int) = some (.int ns[i]) := by
  rw [Mw.atI_nat (by omega) (by rw [iD_len]; omega), show ((i : Int)).toNat = i by omega]
  unfold iD
  rw [List.getElem?_map, List.getElem?_eq_getElem h]; rfl
mutual
def tpD : D → D
  | .list ds => .tuple (tpA ds)
  | .tuple ds => .tuple (tpA ds)
  | d => d
def tpA : List D → List D
  | [] => []
  | d :: ds => tpD d :: tpA ds
end
mutual
def okD : Nat → D → Bool
  | 0, _ => false
  | n + 1, .list ds => decide (ds.length ≤ 1000) && okA n ds
  | n + 1, .tuple ds => decide (ds.length ≤ 1000) && okA n ds
  | _ + 1, .dict _ => false
  | _ + 1, _ => true
def okA : Nat → List D → Bool
  | _, [] => true
  | n, d :: ds => okD n d && okA n ds
end
theorem okA_get {n : Nat} : ∀ {ds : List D} {i : Nat} {d : D}, okA n ds = true → ds[i]? = some d → okD n d = true ∧ (tpA ds)[i]? = some (tpD d)
  | [], i, d, _, h => by simp at h
  | x :: ds, 0, d, h, e => by
    rw [okA, Bool.and_eq_true] at h
    have : x = d := by simpa using e
    subst this
    exact ⟨h.1, by simp [tpA]⟩
  | x :: ds, i + 1, d, h, e => by
    rw [okA, Bool.and_eq_true] at h
    have := okA_get (i := i) (d := d) h.2 (by simpa using e)
    exact ⟨this.1, by simpa [tpA] using this.2⟩
theorem tpA_len : ∀ ds : List D, (tpA ds).length = ds.length
  | [] => rfl
  | d :: ds => by rw [tpA, List.length_cons, List.length_cons, tpA_len]
theorem tupled_in {n : Nat} {x : D} {ds : List D} {Q : List D → List Sl → Prop} (ih : ∀ d, okD n d = true → F_tupled n [.fro d] = .ok (.fro (tpD d)) none) (hl : ds.length ≤ 1000) (h : okA n ds = true)
    (q : Q (tpA ds) [.fro x, .un]) : Post Q (fun _ _ _ _ => False) (lcL [1] (.one 1) (ret true) (callE (F_tupled n) (argsCons (vr 1) argsNil)) [] ds [.fro x, .un]) := by
  refine lc_wp (fun i acc g => g = [.fro x, .un] ∧ acc = (tpA ds).take i ∧ i ≤ ds.length) ⟨rfl, rfl, Nat.zero_le _⟩ ?_ ?_
  · rintro i d acc g hi ⟨rfl, rfl, hle⟩
    obtain ⟨h1, h2⟩ := okA_get h hi
    have hlt := (List.getElem?_eq_some_iff.mp hi).1
    have hs : ((tpA ds).take i).length < SZ := by
      have : SZ = 16777216 := rfl
      rw [List.length_take]; omega
    simp_arith [ih d h1, hs]
    refine ⟨trivial, trivial, ?_, hlt⟩
    obtain ⟨h3, h4⟩ := List.getElem?_eq_some_iff.mp h2
    rw [← h4, List.take_append_getElem]
  · rintro acc g ⟨rfl, rfl, hle⟩
    rw [List.take_of_length_le (by rw [tpA_len]; exact Nat.le_refl _)]
    exact q
theorem tupled_ok : ∀ (n : Nat) (d : D), okD n d = true → F_tupled n [.fro d] = .ok (.fro (tpD d)) none
  | 0, d, h => by simp [okD] at h
  | n + 1, d, h => by
    refine fd_post (R := fun r => r = .ok (.fro (tpD d)) none) rfl ?_
    cases d with
    | dict _ => simp [okD] at h
    | none => simp_arith [d_tupled]; exact ⟨_, rfl, rfl⟩
    | bool b => simp_arith [d_tupled]; exact ⟨_, rfl, rfl⟩
    | int b => simp_arith [d_tupled]; exact ⟨_, rfl, rfl⟩
    | str b => simp_arith [d_tupled]; exact ⟨_, rfl, rfl⟩
    | list ds =>
      rw [okD, Bool.and_eq_true] at h
      simp_arith [d_tupled]
      refine tupled_in (tupled_ok n) (of_decide_eq_true h.1) h.2 ?_
      simp_arith []
      exact ⟨_, rfl, by rw [tpD]⟩
    | tuple ds =>
      rw [okD, Bool.and_eq_true] at h
      simp_arith [d_tupled]
      refine tupled_in (tupled_ok n) (of_decide_eq_true h.1) h.2 ?_
      simp_arith []
      exact ⟨_, rfl, by rw [tpD]⟩
theorem ini_num {d : D} (h : okD 6 d = true) : iniD ini_BadNumber d = some (tpD d) := by
  have e := tupled_ok 6 d h
  simp_arith! [iniD, ini_BadNumber, e]
theorem num_i (n : Int) : iniD ini_BadNumber (.int n) = some (.int n) := ini_num (d := .int n) rfl
theorem iD_app (a b : List Int) : iD (a ++ b) = iD a ++ iD b := List.map_append
theorem intsOf_i : ∀ zs : List Int, intsOf (iD zs) = some zs
  | [] => rfl
  | z :: zs => by
    have := intsOf_i zs
    show (intsOf (iD zs)).map (z :: ·) = _
    rw [this]; rfl
theorem log2_le {n k : Nat} (h : n < 2 ^ k) : n.log2 ≤ k := by
  by_cases h0 : n = 0
  · subst h0; simp
  · exact Nat.le_of_lt ((Nat.log2_lt h0).mpr h)
def BB : Int := 1000000000000000000000000000000000000000000000000000000000000
theorem BB_is : BB = 1000000000000000000000000000000000000000000000000000000000000 := rfl
theorem mulOk_b {a b : Int} (h1 : -BB ≤ a) (h2 : a ≤ BB) (h3 : -BB ≤ b) (h4 : b ≤ BB) : mulOk a b = true := by
  have hB : (1000000000000000000000000000000000000000000000000000000000000 : Nat) < 2 ^ 250 := by decide
  rw [BB_is] at h1 h2 h3 h4
  have ha : a.natAbs < 2 ^ 250 := Nat.lt_of_le_of_lt (by omega) hB
  have hb : b.natAbs < 2 ^ 250 := Nat.lt_of_le_of_lt (by omega) hB
  have := log2_le ha
  have := log2_le hb
  unfold mulOk
  exact decide_eq_true (by omega)
theorem divOk_b {b : Int} (h3 : 0 < b) (h4 : b ≤ BB) : divOk b = true := by
  have hB : (1000000000000000000000000000000000000000000000000000000000000 : Nat) < 2 ^ 250 := by decide
  rw [BB_is] at h4
  have hb : b.natAbs < 2 ^ 250 := Nat.lt_of_le_of_lt (by omega) hB
  have := log2_le hb
  unfold divOk
  exact decide_eq_true (by omega)
theorem pickI {L : List Int} {r : Int} (h0 : 0 ≤ r) (h1 : r < L.length) : ∃ n, atI (iD L) r = some (.int n) ∧ n ∈ L := by
  obtain ⟨k, rfl⟩ : ∃ k : Nat, r = k := ⟨r.toNat, by omega⟩
  have hk : k < L.length := by omega
  exact ⟨L[k], iD_get hk, List.getElem_mem hk⟩
theorem pick {L : List D} {r : Int} (h0 : 0 ≤ r) (h1 : r < L.length) : ∃ d, atI L r = some d ∧ d ∈ L := by
  obtain ⟨k, rfl⟩ : ∃ k : Nat, r = k := ⟨r.toNat, by omega⟩
  have hk : k < L.length := by omega
  exact ⟨L[k], by rw [Mw.atI_nat (by omega) (by omega), show ((k : Int)).toNat = k by omega, List.getElem?_eq_getElem hk], List.getElem_mem hk⟩
theorem ltake {ds : List D} {m : Int} (hm : 0 < m) (T : Tape ds) : ∃ r ds', F__law_take [.bor ds, .fro (.int m)] = .ok (.fro (.int r)) (some ds') ∧ 0 ≤ r ∧ r < m ∧ Tape ds' := by
  rw [e_take]; exact take_ok hm T
theorem pl_told : plB (.str "told") = true := by decide +kernel
theorem told_i (n : Int) : F__law_just [.fro (.tuple [.str "told", .int n]), .fro (.tuple [.str "told", .int n])] = .ok (.fro (.bool true)) none := by
  rw [e_just]
  exact just_ok (by rw [plB, plA, pl_told]; rfl) (by simp [szD, szA])
theorem just_i (n : Int) : F__law_just [.fro (.int n), .fro (.int n)] = .ok (.fro (.bool true)) none := by
  rw [e_just]
  exact just_ok (by rw [plB]) (by simp [szD, szA])
theorem addT {xs ys : List D} (h : xs.length + ys.length ≤ 1000) : addD (.tuple xs) (.tuple ys) = some (.tupN (xs ++ ys)) := by
  show gd _ _ = _
  unfold gd
  have : SZ = 16777216 := rfl
  rw [decide_eq_true (by omega), if_pos rfl]
end G00
namespace G00
open PySem L2 Mw
/-! ## lots of hours: what the program's defs tell -/
theorem told_prs {l : List (Int × Int)} (h : l.length ≤ 100000) : F__law_just [.fro (.tuple (prs l)), .fro (.tuple (prs l))] = .ok (.fro (.bool true)) none := by
  rw [e_just]
  refine just_ok ?_ ?_
  · rw [plB, plA_prs]
  · simp only [szD, szA_prs]
    omega
def Ent (f : Int × Int → D) : Prop := f = prQ ∨ f = prL
/-- data that tells the stretches -/
def Lot (d : D) (ps : List (Int × Int)) : Prop := ∃ f, Ent f ∧ (d = .list (ps.map f) ∨ d = .tuple (ps.map f))
theorem isstr_Q (p : Int × Int) : F_is_stretch [.fro (prQ p)] = .ok (.fro (.bool (decide (p.1 ≤ p.2)))) none := by
  refine fd_post (R := fun r => r = .ok (.fro (.bool (decide (p.1 ≤ p.2)))) none) rfl ?_
  simp_arith [d_is_stretch, prQ, isint_i, at0, at1]
  exact ⟨_, rfl, rfl⟩
theorem isstr_L (p : Int × Int) : F_is_stretch [.fro (prL p)] = .ok (.fro (.bool (decide (p.1 ≤ p.2)))) none := by
  refine fd_post (R := fun r => r = .ok (.fro (.bool (decide (p.1 ≤ p.2)))) none) rfl ?_
  simp_arith [d_is_stretch, prL, isint_i, at0, at1]
  exact ⟨_, rfl, rfl⟩
theorem isstr_f {f : Int × Int → D} (hf : Ent f) (p : Int × Int) : F_is_stretch [.fro (f p)] = .ok (.fro (.bool (decide (p.1 ≤ p.2)))) none := by
  rcases hf with rfl | rfl
  · exact isstr_Q p
  · exact isstr_L p
theorem ent_get {f : Int × Int → D} {ps : List (Int × Int)} {i : Nat} {d : D} (h : (ps.map f)[i]? = some d) : ∃ p, ps[i]? = some p ∧ d = f p := by
  rw [List.getElem?_map] at h
  cases e : ps[i]? with
  | none => rw [e] at h; cases h
  | some p => rw [e] at h; exact ⟨p, rfl, (Option.some.inj h).symm⟩
theorem fault_in {f : Int × Int → D} {ps : List (Int × Int)} {d0 : D} (hf : Ent f) (ho : OkP ps) : Post (fun fl g => fl = .nx ∧ ∃ o1 o2, g = [.fro d0, opn o1, opn o2]) (fun _ _ _ _ => False) (forL (.tup [1, 2]) (ifS (notT (tstE (callE F_is_stretch (argsCons (vr 2) argsNil)))) (retS (vr 1)) nxS) (enmL 0 (ps.map f)) [.fro d0, .un, .un]) := by
  refine for_nx (fun i g => ∃ o1 o2, g = [.fro d0, opn o1, opn o2]) ⟨none, none, rfl⟩ ?_ ?_
  · rintro i d g hi ⟨o1, o2, rfl⟩
    have hlt := (List.getElem?_eq_some_iff.mp hi).1
    rw [enmL_len, List.length_map] at hlt
    have e := enmL_get 0 (ds := ps.map f) (k := i) (d := f ps[i]) (by rw [List.getElem?_map, List.getElem?_eq_getElem hlt]; rfl)
    rw [e] at hi
    obtain rfl := Option.some.inj hi
    have hs := isstr_f hf ps[i]
    rw [decide_eq_true (ho _ (List.getElem_mem hlt))] at hs
    simp_arith [hs]
    exact ⟨some _, some _, rfl⟩
  · rintro g ⟨o1, o2, rfl⟩
    exact ⟨rfl, o1, o2, rfl⟩
theorem fault_ok {d : D} {ps : List (Int × Int)} (h : Lot d ps) (ho : OkP ps) : F_lot_fault [.fro d] = .ok (.fro .none) none := by
  obtain ⟨f, hf, h⟩ := h
  refine fd_post (R := fun r => r = .ok (.fro .none) none) rfl ?_
  rcases h with rfl | rfl
  · simp_arith [d_lot_fault, p_enmE, p_enmS]
    refine post_mono (fault_in hf ho) ?_ fun _ _ _ _ q => q.elim
    rintro fl g ⟨rfl, o1, o2, rfl⟩
    simp_arith []
    exact ⟨_, rfl, rfl⟩
  · simp_arith [d_lot_fault, p_enmE, p_enmS]
    refine post_mono (fault_in hf ho) ?_ fun _ _ _ _ q => q.elim
    rintro fl g ⟨rfl, o1, o2, rfl⟩
    simp_arith []
    exact ⟨_, rfl, rfl⟩
theorem pairs_in {f : Int × Int → D} {ps : List (Int × Int)} {d0 : D} {Q : List D → List Sl → Prop} (hf : Ent f) (hl : ps.length ≤ 100000) (q : Q (prs ps) [.fro d0, .fro .none, .un]) :
    Post Q (fun _ _ _ _ => False) (lcL [2] (.one 2) (ret true) (tupE (argsCons (op2 ixD (vr 2) (cst (.int 0))) (argsCons (op2 ixD (vr 2) (cst (.int 1))) argsNil))) [] (ps.map f) [.fro d0, .fro .none, .un]) := by
  refine lc_wp (fun i acc g => g = [.fro d0, .fro .none, .un] ∧ acc = prs (ps.take i)) ⟨rfl, rfl⟩ ?_ ?_
  · rintro i d acc g hi ⟨rfl, rfl⟩
    obtain ⟨p, hp, rfl⟩ := ent_get hi
    have h2 : 2 ≤ SZ := by decide
    have hs : (prs (ps.take i)).length < SZ := by
      have : SZ = 16777216 := rfl
      rw [prs_len, List.length_take]; omega
    rcases hf with rfl | rfl
    · simp_arith [prQ, at0, at1, h2, hs]
      exact ⟨trivial, trivial, (prs_take hp).symm⟩
    · simp_arith [prL, at0, at1, h2, hs]
      exact ⟨trivial, trivial, (prs_take hp).symm⟩
  · rintro acc g ⟨rfl, rfl⟩
    rw [List.length_map, List.take_length]
    exact q
theorem pairs_ok {d : D} {ps : List (Int × Int)} (h : Lot d ps) (ho : OkP ps) (hl : ps.length ≤ 100000) : F_pairs_of [.fro d] = .ok (.own (prs ps)) none := by
  have hfa := fault_ok h ho
  obtain ⟨f, hf, h⟩ := h
  refine fd_post (R := fun r => r = .ok (.own (prs ps)) none) rfl ?_
  rcases h with rfl | rfl
  · simp_arith [d_pairs_of, hfa]
    refine pairs_in hf hl ?_
    simp_arith []
    exact ⟨_, rfl, rfl⟩
  · simp_arith [d_pairs_of, hfa]
    refine pairs_in hf hl ?_
    simp_arith []
    exact ⟨_, rfl, rfl⟩
/-! ## one sweep -/
theorem stepJ_len (told : List (Int × Int)) (p : Int × Int) : (stepJ told p).length ≤ told.length + 1 := by
  rcases List.eq_nil_or_concat told with rfl | ⟨qs, q, rfl⟩
  · exact Nat.le_refl _
  · rw [List.concat_eq_append, stepJ_app]
    split <;> simp
theorem foldJ_len : ∀ (ps told : List (Int × Int)), (ps.foldl stepJ told).length ≤ told.length + ps.length
  | [], told => Nat.le_refl _
  | p :: ps, told => by
    rw [List.foldl_cons]
    have := foldJ_len ps (stepJ told p)
    have := stepJ_len told p
    rw [List.length_cons]; omega
theorem joinP_len (ps : List (Int × Int)) : (joinP ps).length ≤ ps.length := by
  have := foldJ_len (sortQ ps) []
  unfold joinP
  rw [(sortQ_perm ps).length_eq] at this
  simpa using this
theorem joined_ok {ps : List (Int × Int)} (hl : ps.length ≤ 100000) : F_joined_up [.fro (.list (prs ps))] = .ok (.fro (.tuple (prs (joinP ps)))) none := by
  have h0 : 0 ≤ SZ := Nat.zero_le _
  have h2 : 2 ≤ SZ := by decide
  have hsl : (sortQ ps).length = ps.length := (sortQ_perm ps).length_eq
  refine fd_post (R := fun r => r = .ok (.fro (.tuple (prs (joinP ps)))) none) rfl ?_
  simp_arith [d_joined_up, h0, sortA_prs]
  refine for_nx (fun i g => ∃ o2 o3, g = [.fro (.list (prs ps)), .own (prs (((sortQ ps).take i).foldl stepJ [])), opn o2, opn o3]) ⟨none, none, rfl⟩ ?_ ?_
  · rintro i d g hi ⟨o2, o3, rfl⟩
    obtain ⟨p, hp, rfl⟩ := prs_get hi
    have hfold : ((sortQ ps).take (i + 1)).foldl stepJ [] = stepJ (((sortQ ps).take i).foldl stepJ []) p := by
      rw [List.take_add_one, hp, List.foldl_append]; rfl
    have hlen := foldJ_len ((sortQ ps).take i) []
    have htk : ((sortQ ps).take i).length ≤ ps.length := by rw [List.length_take]; omega
    rw [hfold]
    generalize ((sortQ ps).take i).foldl stepJ [] = told at *
    have hlen : told.length ≤ 100000 := by simp at hlen; omega
    rcases List.eq_nil_or_concat told with rfl | ⟨qs, q, rfl⟩
    · have e : prs ([] : List (Int × Int)) = [] := rfl
      have e2 : prs (stepJ [] p) = [.tuple [.int p.1, .int p.2]] := rfl
      have hs : ([] : List D).length < SZ := by decide
      rw [e, e2]
      simp_arith [prQ, h2, hs, List.isEmpty_nil]
      exact ⟨some _, some _, rfl⟩
    · rw [List.concat_eq_append] at *
      rw [stepJ_app, prs_app]
      have e : prs [q] = [prQ q] := rfl
      have hx : atI (prs qs ++ [prQ q]) (-1) = some (prQ q) := atI_end _ _
      have hne : (prs qs ++ [prQ q]).isEmpty = false := by simp
      have a0 : atI [PyData.int q.1, .int q.2] 0 = some (.int q.1) := rfl
      have a1 : atI [PyData.int q.1, .int q.2] 1 = some (.int q.2) := rfl
      rw [e]
      by_cases c : p.1 ≤ q.2 + 1
      · have hd : decide (p.1 ≤ q.2 + 1) = true := decide_eq_true c
        rw [if_pos c, prs_app]
        have e3 : prs [(q.1, if q.2 > p.2 then q.2 else p.2)] = [.tuple [.int q.1, .int (if q.2 > p.2 then q.2 else p.2)]] := rfl
        rw [e3]
        unfold prQ at hx hne ⊢
        simp_arith [h2, hx, hne, a0, a1, hd, p_ixS, p_setK, cK_i, setF_last]
        exact ⟨some _, some _, rfl⟩
      · have hd : decide (p.1 ≤ q.2 + 1) = false := decide_eq_false c
        rw [if_neg c, prs_app, prs_app]
        have hs : (prs qs ++ [prQ q]).length < SZ := by
          have : SZ = 16777216 := rfl
          rw [List.length_append, prs_len, List.length_singleton]
          rw [List.length_append, List.length_singleton] at hlen
          omega
        rw [e]
        show Post _ _ (bnd (Tg.put (.tup [2, 3]) (prQ p)) _ _)
        have e3 : prs [p] = [.tuple [.int p.1, .int p.2]] := rfl
        rw [e3]
        unfold prQ at hx hne hs ⊢
        simp_arith [h2, hx, hne, a0, a1, hd, hs]
        exact ⟨some _, some _, rfl⟩
  · rintro g ⟨o2, o3, rfl⟩
    have e : (sortQ ps).take (prs (sortQ ps)).length = sortQ ps := by rw [prs_len, List.take_length]
    rw [e]
    simp_arith []
    exact ⟨_, rfl, rfl⟩
theorem leastF_ok {d : D} {ps : List (Int × Int)} (h : Lot d ps) (ho : OkP ps) (hl : ps.length ≤ 100000) : F_least_form [.fro d] = .ok (.fro (.tuple (prs (joinP ps)))) none := by
  have h1 := pairs_ok h ho hl
  have h2 := joined_ok hl
  refine fd_post (R := fun r => r = .ok (.fro (.tuple (prs (joinP ps)))) none) rfl ?_
  simp_arith [d_least_form, h1, h2]
  exact ⟨_, rfl, rfl⟩
end G00
namespace G00
open PySem L2 Mw
theorem opairs_ok {d : D} {ps : List (Int × Int)} (h : Lot d ps) (ho : OkP ps) (hl : ps.length ≤ 100000) : F_other_pairs_of [.fro d] = .ok (.own (prs ps)) none := by
  have hfa := fault_ok h ho
  obtain ⟨f, hf, h⟩ := h
  refine fd_post (R := fun r => r = .ok (.own (prs ps)) none) rfl ?_
  rcases h with rfl | rfl
  · simp_arith [d_other_pairs_of, hfa]
    refine pairs_in hf hl ?_
    simp_arith []
    exact ⟨_, rfl, rfl⟩
  · simp_arith [d_other_pairs_of, hfa]
    refine pairs_in hf hl ?_
    simp_arith []
    exact ⟨_, rfl, rfl⟩
/-! ## asked of a lot -/
def countP (ps : List (Int × Int)) : Int := (ps.map fun p => p.2 - p.1 + 1).sum
theorem count_ok {d : D} {ps : List (Int × Int)} (h : Lot d ps) (ho : OkP ps) (hl : ps.length ≤ 100000) : F_lot_count [.fro d] = .ok (.fro (.int (countP (joinP ps)))) none := by
  have h1 := pairs_ok h ho hl
  have h2 := joined_ok hl
  have h3 := joinP_len ps
  unfold countP
  generalize joinP ps = L at *
  refine fd_post (R := fun r => r = .ok (.fro (.int (L.map fun p => p.2 - p.1 + 1).sum)) none) rfl ?_
  simp_arith [d_lot_count, h1, h2]
  refine lc_wp (fun i acc g => g = [.fro d, .un, .un] ∧ acc = ((L.take i).map fun p => p.2 - p.1 + 1).map PyData.int) ⟨rfl, rfl⟩ ?_ ?_
  · rintro i d acc g hi ⟨rfl, rfl⟩
    obtain ⟨p, hp, rfl⟩ := prs_get hi
    have hs : (((L.take i).map fun p => p.2 - p.1 + 1).map PyData.int).length < SZ := lt_SZ (by rw [List.length_map, List.length_map, List.length_take]; omega)
    simp_arith [prQ, hs]
    refine ⟨trivial, trivial, ?_⟩
    rw [List.take_add_one, hp, List.map_append, List.map_append]; rfl
  · rintro acc g ⟨rfl, rfl⟩
    rw [prs_len, List.take_length]
    simp_arith [sumF_i]
    exact ⟨_, rfl, rfl⟩
theorem prs_at {L : List (Int × Int)} {i : Int} {k : Nat} {p : Int × Int} (hi : i = k) (h : L[k]? = some p) : atI (prs L) i = some (.tuple [.int p.1, .int p.2]) := by
  have hlt := (List.getElem?_eq_some_iff.mp h).1
  rw [Mw.atI_nat (by omega) (by rw [prs_len]; omega), show i.toNat = k by omega]
  unfold prs
  rw [List.getElem?_map, h]; rfl
theorem atp0 {p : Int × Int} : atI [PyData.int p.1, .int p.2] 0 = some (.int p.1) := rfl
theorem atp1 {p : Int × Int} : atI [PyData.int p.1, .int p.2] 1 = some (.int p.2) := rfl
def headD (L : List (Int × Int)) : D := match L with
  | [] => .none
  | p :: _ => .int p.1
def lastD (L : List (Int × Int)) : D := match L.getLast? with
  | none => .none
  | some p => .int p.2
theorem first_ok {d : D} {ps : List (Int × Int)} (h : Lot d ps) (ho : OkP ps) (hl : ps.length ≤ 100000) : F_first_hour [.fro d] = .ok (.fro (headD (joinP ps))) none := by
  have h1 := pairs_ok h ho hl
  have h2 := joined_ok hl
  generalize joinP ps = L at *
  refine fd_post (R := fun r => r = .ok (.fro (headD L)) none) rfl ?_
  cases L with
  | nil =>
    have e : prs [] = [] := rfl
    rw [e] at h2
    simp_arith [d_first_hour, h1, h2, List.isEmpty_nil]
    exact ⟨_, rfl, rfl⟩
  | cons p L =>
    have hx : atI (prs (p :: L)) 0 = some (.tuple [.int p.1, .int p.2]) := prs_at (k := 0) rfl rfl
    have e : (prs (p :: L)).isEmpty = false := rfl
    simp_arith [d_first_hour, h1, h2, e, hx, atp0]
    exact ⟨_, rfl, rfl⟩
theorem last_ok {d : D} {ps : List (Int × Int)} (h : Lot d ps) (ho : OkP ps) (hl : ps.length ≤ 100000) : F_last_hour [.fro d] = .ok (.fro (lastD (joinP ps))) none := by
  have h1 := pairs_ok h ho hl
  have h2 := joined_ok hl
  generalize joinP ps = L at *
  refine fd_post (R := fun r => r = .ok (.fro (lastD L)) none) rfl ?_
  rcases List.eq_nil_or_concat L with rfl | ⟨qs, q, rfl⟩
  · have e : prs [] = [] := rfl
    rw [e] at h2
    simp_arith [d_last_hour, h1, h2, List.isEmpty_nil]
    exact ⟨_, rfl, rfl⟩
  · rw [List.concat_eq_append] at *
    have hx : atI (prs (qs ++ [q])) (-1) = some (.tuple [.int q.1, .int q.2]) := by rw [prs_app]; exact atI_end _ _
    have e : (prs (qs ++ [q])).isEmpty = false := by rw [prs_app]; simp [prs]
    simp_arith [d_last_hour, h1, h2, e, hx, atp1]
    unfold lastD
    rw [List.getLast?_concat]
    exact ⟨_, rfl, rfl⟩
/-- the stretches between -/
def holesP : List (Int × Int) → List (Int × Int)
  | p :: q :: r => (p.2 + 1, q.1 - 1) :: holesP (q :: r)
  | _ => []
theorem holesP_len : ∀ L : List (Int × Int), (holesP L).length = L.length - 1
  | [] => rfl
  | [p] => rfl
  | p :: q :: r => by
    have := holesP_len (q :: r)
    simp only [holesP, List.length_cons] at this ⊢
    omega
theorem holesP_get : ∀ {L : List (Int × Int)} {i : Nat} {p q : Int × Int}, L[i]? = some p → L[i + 1]? = some q → (holesP L)[i]? = some (p.2 + 1, q.1 - 1)
  | [], i, p, q, h, _ => by simp at h
  | [x], i, p, q, h, k => by simp at k
  | x :: y :: r, 0, p, q, h, k => by
    have : x = p := by simpa using h
    have : y = q := by simpa using k
    subst x y
    rfl
  | x :: y :: r, i + 1, p, q, h, k => by
    rw [holesP, List.getElem?_cons_succ]
    exact holesP_get (by simpa using h) (by simpa using k)
theorem holes_ok {d : D} {ps : List (Int × Int)} (h : Lot d ps) (ho : OkP ps) (hl : ps.length ≤ 100000) : F_lot_holes [.fro d] = .ok (.fro (.tuple (prs (holesP (joinP ps))))) none := by
  have h1 := pairs_ok h ho hl
  have h2 := joined_ok hl
  have h3 := joinP_len ps
  generalize joinP ps = L at *
  have hr : rOk (((prs L).length : Int) - 1) = true := rOk_le (by omega) (by rw [prs_len]; omega)
  have hlr : (rngL 0 (((prs L).length : Int) - 1).toNat).length = L.length - 1 := by rw [rngL_len, prs_len]; omega
  have h2s : 2 ≤ SZ := by decide
  refine fd_post (R := fun r => r = .ok (.fro (.tuple (prs (holesP L)))) none) rfl ?_
  simp_arith [d_lot_holes, h1, h2, hr]
  refine lc_wp (fun i acc g => g = [.fro d, .fro (.tuple (prs L)), .un] ∧ acc = prs ((holesP L).take i)) ⟨rfl, rfl⟩ ?_ ?_
  · rintro i d acc g hi ⟨rfl, rfl⟩
    obtain ⟨rfl, hlt⟩ := rngL_at hi
    rw [prs_len] at hlt
    have a1 := prs_at (L := L) (i := 0 + (i : Int)) (k := i) (by omega) (List.getElem?_eq_getElem (by omega))
    have a2 := prs_at (L := L) (i := 0 + (i : Int) + 1) (k := i + 1) (by omega) (List.getElem?_eq_getElem (by omega))
    have hg := holesP_get (L := L) (i := i) (List.getElem?_eq_getElem (by omega)) (List.getElem?_eq_getElem (by omega))
    rw [Int.zero_add] at a1 a2
    have hs : (prs ((holesP L).take i)).length < SZ := lt_SZ (by rw [prs_len, List.length_take, holesP_len]; omega)
    simp_arith [a1, a2, atp0, atp1, h2s, hs]
    refine ⟨trivial, trivial, ?_⟩
    rw [prs_take hg]; rfl
  · rintro acc g ⟨rfl, rfl⟩
    rw [hlr, ← holesP_len, List.take_length]
    simp_arith []
    exact ⟨_, rfl, rfl⟩
def hasP (ps : List (Int × Int)) (z : Int) : Bool := ps.any fun p => decide (p.1 ≤ z) && decide (z ≤ p.2)
theorem hasP_iff {ps : List (Int × Int)} {z : Int} : hasP ps z = true ↔ InP ps z := by
  unfold hasP InP
  rw [List.any_eq_true]
  constructor
  · rintro ⟨p, hp, h⟩
    rw [Bool.and_eq_true] at h
    exact ⟨p, hp, of_decide_eq_true h.1, of_decide_eq_true h.2⟩
  · rintro ⟨p, hp, h1, h2⟩
    exact ⟨p, hp, by rw [decide_eq_true h1, decide_eq_true h2]; rfl⟩
theorem has_ok {d : D} {ps : List (Int × Int)} {z : Int} (h : Lot d ps) (ho : OkP ps) (hl : ps.length ≤ 100000) : F_has_hour [.fro d, .fro (.int z)] = .ok (.fro (.bool (hasP ps z))) none := by
  have h1 := pairs_ok h ho hl
  refine fd_post (R := fun r => r = .ok (.fro (.bool (hasP ps z))) none) rfl ?_
  simp_arith [d_has_hour, h1, isint_i]
  refine for_br (fun i g => (∃ o3 o4, g = [.fro d, .fro (.int z), .fro (.list (prs ps)), opn o3, opn o4]) ∧ hasP (ps.take i) z = false)
    (fun g => (∃ o3 o4, g = [.fro d, .fro (.int z), .fro (.list (prs ps)), opn o3, opn o4]) ∧ hasP ps z = false) (fun v g => v = .fro (.bool true) ∧ hasP ps z = true ∧ ∃ o3 o4, g = [.fro d, .fro (.int z), .fro (.list (prs ps)), opn o3, opn o4]) ⟨⟨none, none, rfl⟩, rfl⟩ ?_ ?_ ?_ ?_
  · rintro i d' g hi ⟨⟨o3, o4, rfl⟩, hno⟩
    obtain ⟨p, hp, rfl⟩ := prs_get hi
    have hmem : p ∈ ps := List.mem_of_getElem? hp
    by_cases c1 : p.1 ≤ z
    · by_cases c2 : z ≤ p.2
      · have d1 : decide (p.1 ≤ z) = true := decide_eq_true c1
        have d2 : decide (z ≤ p.2) = true := decide_eq_true c2
        simp_arith [prQ, d1, d2]
        exact ⟨trivial, hasP_iff.mpr ⟨p, hmem, c1, c2⟩, some _, some _, rfl⟩
      · have d1 : decide (p.1 ≤ z) = true := decide_eq_true c1
        have d2 : decide (z ≤ p.2) = false := decide_eq_false c2
        simp_arith [prQ, d1, d2]
        refine ⟨⟨some _, some _, rfl⟩, ?_⟩
        rw [List.take_add_one, hp]
        unfold hasP at hno ⊢
        rw [List.any_append, hno]
        simp [d2]
    · have d1 : decide (p.1 ≤ z) = false := decide_eq_false c1
      simp_arith [prQ, d1]
      refine ⟨⟨some _, some _, rfl⟩, ?_⟩
      rw [List.take_add_one, hp]
      unfold hasP at hno ⊢
      rw [List.any_append, hno]
      simp [d1]
  · rintro g ⟨h, hno⟩
    rw [prs_len, List.take_length] at hno
    exact ⟨h, hno⟩
  · rintro g ⟨⟨o3, o4, rfl⟩, hno⟩
    rw [hno]
    simp_arith []
    exact ⟨_, rfl, rfl⟩
  · rintro v g ⟨rfl, hy, o3, o4, rfl⟩
    rw [hy]
    simp_arith []
    exact ⟨_, rfl, rfl⟩
def addP (by_ : Int) (ps : List (Int × Int)) : List (Int × Int) := ps.map fun p => (p.1 + by_, p.2 + by_)
theorem addP_take (by_ : Int) (ps : List (Int × Int)) {i : Nat} {p : Int × Int} (h : ps[i]? = some p) : prs (addP by_ (ps.take (i + 1))) = prs (addP by_ (ps.take i)) ++ [.tuple [.int (p.1 + by_), .int (p.2 + by_)]] := by
  unfold addP
  rw [List.take_add_one, h, List.map_append, prs_app]; rfl
theorem addP_len (b : Int) (ps : List (Int × Int)) : (addP b ps).length = ps.length := List.length_map _
theorem shift_ok {d : D} {ps : List (Int × Int)} {b : Int} (h : Lot d ps) (ho : OkP ps) (hl : ps.length ≤ 100000) : F_lot_shift [.fro d, .fro (.int b)] = .ok (.fro (.tuple (prs (joinP (addP b ps))))) none := by
  have h1 := pairs_ok h ho hl
  have h2 := joined_ok (ps := addP b ps) (by rw [addP_len]; exact hl)
  have h2s : 2 ≤ SZ := by decide
  refine fd_post (R := fun r => r = .ok (.fro (.tuple (prs (joinP (addP b ps))))) none) rfl ?_
  simp_arith [d_lot_shift, h1, isint_i]
  refine lc_wp (fun i acc g => g = [.fro d, .fro (.int b), .fro (.list (prs ps)), .un, .un] ∧ acc = prs (addP b (ps.take i))) ⟨rfl, rfl⟩ ?_ ?_
  · rintro i d acc g hi ⟨rfl, rfl⟩
    obtain ⟨p, hp, rfl⟩ := prs_get hi
    have hs : (prs (addP b (ps.take i))).length < SZ := lt_SZ (by rw [prs_len, addP_len, List.length_take]; omega)
    simp_arith [prQ, h2s, hs]
    exact ⟨trivial, trivial, (addP_take b ps hp).symm⟩
  · rintro acc g ⟨rfl, rfl⟩
    rw [prs_len, List.take_length]
    simp_arith [h2]
    exact ⟨_, rfl, rfl⟩
theorem union_ok {d e : D} {ps qs : List (Int × Int)} (h : Lot d ps) (ho : OkP ps) (hl : ps.length ≤ 10000) (h' : Lot e qs) (ho' : OkP qs) (hl' : qs.length ≤ 10000) : F_lot_union [.fro d, .fro e] = .ok (.fro (.tuple (prs (joinP (ps ++ qs))))) none := by
  have h1 := pairs_ok h ho (by omega)
  have h2 := opairs_ok h' ho' (by omega)
  have h3 := joined_ok (ps := ps ++ qs) (by rw [List.length_append]; omega)
  rw [prs_app] at h3
  have ha := addL (xs := prs ps) (ys := prs qs) (by rw [prs_len, prs_len]; omega)
  refine fd_post (R := fun r => r = .ok (.fro (.tuple (prs (joinP (ps ++ qs))))) none) rfl ?_
  simp_arith [d_lot_union, h1, h2, ha, h3]
  exact ⟨_, rfl, rfl⟩
end G00
namespace G00
open PySem L2 Mw
/-! ## cut -/
def opD : Option Int → D
  | none => .none
  | some i => .int i
def lowO (f : Option Int) (x : Int) : Int := match f with
  | some i => if x < i then i else x
  | none => x
def highO (l : Option Int) (x : Int) : Int := match l with
  | some i => if i < x then i else x
  | none => x
def cutP (f l : Option Int) : List (Int × Int) → List (Int × Int)
  | [] => []
  | p :: ps => (if lowO f p.1 ≤ highO l p.2 then [(lowO f p.1, highO l p.2)] else []) ++ cutP f l ps
theorem cutP_len (f l : Option Int) : ∀ ps, (cutP f l ps).length ≤ ps.length
  | [] => Nat.le_refl _
  | p :: ps => by
    have := cutP_len f l ps
    rw [cutP, List.length_append, List.length_cons]
    split
    · rw [List.length_singleton]; omega
    · rw [List.length_nil]; omega
theorem cutP_app (f l : Option Int) : ∀ ps qs, cutP f l (ps ++ qs) = cutP f l ps ++ cutP f l qs
  | [], qs => rfl
  | p :: ps, qs => by rw [List.cons_append, cutP, cutP_app f l ps qs, cutP, List.append_assoc]
theorem cutP_take (f l : Option Int) {ps : List (Int × Int)} {i : Nat} {p : Int × Int} (h : ps[i]? = some p) : prs (cutP f l (ps.take (i + 1))) = prs (cutP f l (ps.take i)) ++ (if lowO f p.1 ≤ highO l p.2 then [.tuple [.int (lowO f p.1), .int (highO l p.2)]] else []) := by
  rw [List.take_add_one, h]
  show prs (cutP f l (ps.take i ++ [p])) = _
  rw [cutP_app, prs_app]
  congr 1
  show prs ((if lowO f p.1 ≤ highO l p.2 then [(lowO f p.1, highO l p.2)] else []) ++ []) = _
  split <;> rfl
theorem cut_ok {ps : List (Int × Int)} {f l : Option Int} (hl : ps.length ≤ 100000) : F_cut_to [.fro (.list (prs ps)), .fro (opD f), .fro (opD l)] = .ok (.own (prs (cutP f l ps))) none := by
  have h0 : 0 ≤ SZ := Nat.zero_le _
  have h2 : 2 ≤ SZ := by decide
  refine fd_post (R := fun r => r = .ok (.own (prs (cutP f l ps))) none) rfl ?_
  simp_arith [d_cut_to, h0]
  refine for_nx (fun i g => ∃ o4 o5, g = [.fro (.list (prs ps)), .fro (opD f), .fro (opD l), .own (prs (cutP f l (ps.take i))), opn o4, opn o5]) ⟨none, none, rfl⟩ ?_ ?_
  · rintro i d g hi ⟨o4, o5, rfl⟩
    obtain ⟨p, hp, rfl⟩ := prs_get hi
    have hs : (prs (cutP f l (ps.take i))).length < SZ := lt_SZ (by
      have := cutP_len f l (ps.take i)
      rw [prs_len]; rw [List.length_take] at this; omega)
    rw [cutP_take f l hp]
    have hend : ∀ x y : Int, Post (fun fl g' => match fl with
        | .nx => ∃ o4 o5, g' = [.fro (.list (prs ps)), .fro (opD f), .fro (opD l), .own (prs (cutP f l (ps.take i)) ++ if x ≤ y then [.tuple [.int x, .int y]] else []), opn o4, opn o5]
        | .ct => ∃ o4 o5, g' = [.fro (.list (prs ps)), .fro (opD f), .fro (opD l), .own (prs (cutP f l (ps.take i)) ++ if x ≤ y then [.tuple [.int x, .int y]] else []), opn o4, opn o5]
        | .bk => False
        | .rt _ => False) (fun _ _ _ _ => False) (ifS (tstE (op2 leD (vr 4) (vr 5))) (exprS (apE 3 (tupE (argsCons (vr 4) (argsCons (vr 5) argsNil))))) nxS [.fro (.list (prs ps)), .fro (opD f), .fro (opD l), .own (prs (cutP f l (ps.take i))), .fro (.int x), .fro (.int y)]) := fun x y => by
      by_cases c : x ≤ y
      · have hd : decide (x ≤ y) = true := decide_eq_true c
        rw [if_pos c]
        simp_arith [hd, h2, hs]
        exact ⟨some _, some _, rfl⟩
      · have hd : decide (x ≤ y) = false := decide_eq_false c
        rw [if_neg c]
        simp_arith [hd]
        exact ⟨some _, some _, rfl⟩
    generalize (ifS (tstE (op2 leD (vr 4) (vr 5))) (exprS (apE 3 (tupE (argsCons (vr 4) (argsCons (vr 5) argsNil))))) nxS) = tl at hend ⊢
    have hmid : ∀ x y : Int, Post (fun fl g' => match fl with
        | .nx => ∃ o4 o5, g' = [.fro (.list (prs ps)), .fro (opD f), .fro (opD l), .own (prs (cutP f l (ps.take i)) ++ if x ≤ highO l y then [.tuple [.int x, .int (highO l y)]] else []), opn o4, opn o5]
        | .ct => ∃ o4 o5, g' = [.fro (.list (prs ps)), .fro (opD f), .fro (opD l), .own (prs (cutP f l (ps.take i)) ++ if x ≤ highO l y then [.tuple [.int x, .int (highO l y)]] else []), opn o4, opn o5]
        | .bk => False
        | .rt _ => False) (fun _ _ _ _ => False) (seqS (ifS (andT (tstE (op1 noNF (vr 2))) (tstE (op2 gtD (vr 5) (vr 2)))) (asgS 5 (vr 2)) nxS) tl [.fro (.list (prs ps)), .fro (opD f), .fro (opD l), .own (prs (cutP f l (ps.take i))), .fro (.int x), .fro (.int y)]) := fun x y => by
      cases l with
      | none =>
        have := hend x y
        simp_arith [opD]
        exact this
      | some j =>
        unfold highO
        by_cases c : j < y
        · have hd : decide (j < y) = true := decide_eq_true c
          have := hend x j
          simp only [if_pos c]
          simp_arith [opD, hd]
          exact this
        · have hd : decide (j < y) = false := decide_eq_false c
          have := hend x y
          simp only [if_neg c]
          simp_arith [opD, hd]
          exact this
    generalize (seqS (ifS (andT (tstE (op1 noNF (vr 2))) (tstE (op2 gtD (vr 5) (vr 2)))) (asgS 5 (vr 2)) nxS) tl) = tl2 at hmid ⊢
    cases f with
    | none =>
      have := hmid p.1 p.2
      simp_arith [opD, prQ]
      exact this
    | some j =>
      unfold lowO
      by_cases c : p.1 < j
      · have hd : decide (p.1 < j) = true := decide_eq_true c
        have := hmid j p.2
        simp only [if_pos c]
        simp_arith [opD, prQ, hd]
        exact this
      · have hd : decide (p.1 < j) = false := decide_eq_false c
        have := hmid p.1 p.2
        simp only [if_neg c]
        simp_arith [opD, prQ, hd]
        exact this
  · rintro g ⟨o4, o5, rfl⟩
    rw [prs_len, List.take_length]
    simp_arith []
    exact ⟨_, rfl, rfl⟩
theorem lcut_ok {d : D} {ps : List (Int × Int)} {f l : Option Int} (h : Lot d ps) (ho : OkP ps) (hl : ps.length ≤ 100000) : F_lot_cut [.fro d, .fro (opD f), .fro (opD l)] = .ok (.fro (.tuple (prs (joinP (cutP f l ps))))) none := by
  have h1 := pairs_ok h ho hl
  have h2 := cut_ok (f := f) (l := l) hl
  have h3 := joined_ok (ps := cutP f l ps) (by have := cutP_len f l ps; omega)
  refine fd_post (R := fun r => r = .ok (.fro (.tuple (prs (joinP (cutP f l ps))))) none) rfl ?_
  cases f with
  | none =>
    cases l with
    | none =>
      unfold opD at h2 ⊢
      simp_arith [d_lot_cut, h1, h2, h3]
      exact ⟨_, rfl, rfl⟩
    | some j =>
      unfold opD at h2 ⊢
      simp_arith [d_lot_cut, h1, h2, h3, isint_i]
      exact ⟨_, rfl, rfl⟩
  | some i =>
    cases l with
    | none =>
      unfold opD at h2 ⊢
      simp_arith [d_lot_cut, h1, h2, h3, isint_i]
      exact ⟨_, rfl, rfl⟩
    | some j =>
      unfold opD at h2 ⊢
      simp_arith [d_lot_cut, h1, h2, h3, isint_i]
      exact ⟨_, rfl, rfl⟩
/-! ## meet -/
def maxI (a b : Int) : Int := if b > a then b else a
def minI (a b : Int) : Int := if b < a then b else a
/-- one turn of the walk: what is told -/
def metP (p q : Int × Int) : List (Int × Int) := if maxI p.1 q.1 ≤ minI p.2 q.2 then [(maxI p.1 q.1, minI p.2 q.2)] else []
def meetP : Nat → List (Int × Int) → List (Int × Int) → List (Int × Int)
  | n + 1, p :: ps, q :: qs => metP p q ++ (if p.2 < q.2 then meetP n ps (q :: qs) else meetP n (p :: ps) qs)
  | _, _, _ => []
theorem meetP_nl {n : Nat} {qs : List (Int × Int)} : meetP n [] qs = [] := by cases n <;> rfl
theorem meetP_nr {n : Nat} {ps : List (Int × Int)} : meetP n ps [] = [] := by cases n <;> cases ps <;> rfl
theorem drop_at {L : List (Int × Int)} {a : Nat} {p : Int × Int} {ps : List (Int × Int)} (h : L.drop a = p :: ps) : L[a]? = some p ∧ L.drop (a + 1) = ps := by
  have h1 : (L.drop a)[0]? = some p := by rw [h]; rfl
  rw [List.getElem?_drop, Nat.add_zero] at h1
  refine ⟨h1, ?_⟩
  rw [← List.drop_drop, h]; rfl
theorem drop_end {L : List (Int × Int)} {a : Nat} (h : L.drop a = []) : L.length ≤ a := List.drop_eq_nil_iff.mp h
theorem shared_ok {A B : List (Int × Int)} (hA : A.length ≤ 100000) (hB : B.length ≤ 100000) : F_shared_by [.fro (.tuple (prs A)), .fro (.tuple (prs B))] = .ok (.fro (.tuple (prs (meetP (A.length + B.length) A B)))) none := by
  have h0 : 0 ≤ SZ := Nat.zero_le _
  have h2 : 2 ≤ SZ := by decide
  have hfu : ∀ g, fu_shared_by0 g = 1000000 := fun _ => rfl
  refine fd_post (R := fun r => r = .ok (.fro (.tuple (prs (meetP (A.length + B.length) A B)))) none) rfl ?_
  simp_arith [d_shared_by, h0, h2, hfu]
  refine wh_wp (fun m g => ∃ (a b : Nat) (told : List (Int × Int)) (o5 o6 : Option D), g = [.fro (.tuple (prs A)), .fro (.tuple (prs B)), .own (prs told), .fro (.int a), .fro (.int b), opn o5, opn o6] ∧ a ≤ A.length ∧ b ≤ B.length ∧ m = (A.length - a) + (B.length - b) ∧ told.length ≤ a + b ∧ told ++ meetP m (A.drop a) (B.drop b) = meetP (A.length + B.length) A B)
    ?_ 1000000 (A.length + B.length) _ (by omega) ⟨0, 0, [], none, none, rfl, Nat.zero_le _, Nat.zero_le _, by omega, Nat.zero_le _, rfl⟩
  rintro m g ⟨a, b, told, o5, o6, rfl, ha, hb, hm, htl, htold⟩
  have hlA : ((prs A).length : Int) = A.length := by rw [prs_len]
  have hlB : ((prs B).length : Int) = B.length := by rw [prs_len]
  cases eA : A.drop a with
  | nil =>
    have := drop_end eA
    have hd : decide ((a : Int) < A.length) = false := decide_eq_false (by omega)
    rw [eA, meetP_nl, List.append_nil] at htold
    subst htold
    simp_arith [hlA, hd]
    exact ⟨_, rfl, rfl⟩
  | cons p ps =>
    cases eB : B.drop b with
    | nil =>
      have := drop_end eB
      have hlt := (List.getElem?_eq_some_iff.mp (drop_at eA).1).1
      have hd : decide ((a : Int) < A.length) = true := decide_eq_true (by omega)
      have hd2 : decide ((b : Int) < B.length) = false := decide_eq_false (by omega)
      rw [eB, meetP_nr, List.append_nil] at htold
      subst htold
      simp_arith [hlA, hlB, hd, hd2]
      exact ⟨_, rfl, rfl⟩
    | cons q qs =>
      obtain ⟨gA, dA⟩ := drop_at eA
      obtain ⟨gB, dB⟩ := drop_at eB
      have hltA := (List.getElem?_eq_some_iff.mp gA).1
      have hltB := (List.getElem?_eq_some_iff.mp gB).1
      have hd : decide ((a : Int) < A.length) = true := decide_eq_true (by omega)
      have hd2 : decide ((b : Int) < B.length) = true := decide_eq_true (by omega)
      have xA := prs_at (L := A) (i := (a : Int)) (k := a) rfl gA
      have xB := prs_at (L := B) (i := (b : Int)) (k := b) rfl gB
      obtain ⟨m', rfl⟩ : ∃ m', m = m' + 1 := ⟨m - 1, by omega⟩
      have hmet : meetP (m' + 1) (A.drop a) (B.drop b) = metP p q ++ (if p.2 < q.2 then meetP m' (A.drop (a + 1)) (B.drop b) else meetP m' (A.drop a) (B.drop (b + 1))) := by
        rw [dA, dB, eA, eB, meetP]
      rw [hmet] at htold
      have hs : (prs told).length < SZ := lt_SZ (by rw [prs_len]; omega)
      simp_arith [hlA, hlB, hd, hd2]
      refine ⟨m', rfl, ?_⟩
      have e1 : (if q.1 > p.1 then q.1 else p.1) = maxI p.1 q.1 := rfl
      have e2 : (if q.2 < p.2 then q.2 else p.2) = minI p.2 q.2 := rfl
      have a0p : atI [PyData.int p.1, .int p.2] 0 = some (.int p.1) := rfl
      have a0q : atI [PyData.int q.1, .int q.2] 0 = some (.int q.1) := rfl
      have a1p : atI [PyData.int p.1, .int p.2] 1 = some (.int p.2) := rfl
      have a1q : atI [PyData.int q.1, .int q.2] 1 = some (.int q.2) := rfl
      have told2 : ∃ told2, told2 = told ++ metP p q ∧ told2.length ≤ a + b + 1 := ⟨_, rfl, by
        rw [List.length_append]
        unfold metP
        split
        · rw [List.length_singleton]; omega
        · rw [List.length_nil]; omega⟩
      obtain ⟨told2, et2, lt2⟩ := told2
      rw [← List.append_assoc, ← et2] at htold
      by_cases c1 : maxI p.1 q.1 ≤ minI p.2 q.2
      · have k1 : decide (maxI p.1 q.1 ≤ minI p.2 q.2) = true := decide_eq_true c1
        have ep : prs told2 = prs told ++ [.tuple [.int (maxI p.1 q.1), .int (minI p.2 q.2)]] := by
          rw [et2, prs_app]; unfold metP; rw [if_pos c1]; rfl
        by_cases c2 : p.2 < q.2
        · have k2 : decide (p.2 < q.2) = true := decide_eq_true c2
          rw [if_pos c2] at htold
          simp_arith [xA, xB, a0p, a0q, a1p, a1q, e1, e2, k1, k2, h2, hs, p_augS, augR_f, addI_ii]
          exact ⟨a + 1, b, told2, some _, some _, by rw [ep]; rfl, by omega, by omega, by omega, by omega, htold⟩
        · have k2 : decide (p.2 < q.2) = false := decide_eq_false c2
          rw [if_neg c2] at htold
          simp_arith [xA, xB, a0p, a0q, a1p, a1q, e1, e2, k1, k2, h2, hs, p_augS, augR_f, addI_ii]
          exact ⟨a, b + 1, told2, some _, some _, by rw [ep]; rfl, by omega, by omega, by omega, by omega, htold⟩
      · have k1 : decide (maxI p.1 q.1 ≤ minI p.2 q.2) = false := decide_eq_false c1
        have ep : prs told2 = prs told := by
          rw [et2, prs_app]; unfold metP; rw [if_neg c1]; exact List.append_nil _
        by_cases c2 : p.2 < q.2
        · have k2 : decide (p.2 < q.2) = true := decide_eq_true c2
          rw [if_pos c2] at htold
          simp_arith [xA, xB, a0p, a0q, a1p, a1q, e1, e2, k1, k2, h2, hs, p_augS, augR_f, addI_ii]
          exact ⟨a + 1, b, told2, some _, some _, by rw [ep]; rfl, by omega, by omega, by omega, by omega, htold⟩
        · have k2 : decide (p.2 < q.2) = false := decide_eq_false c2
          rw [if_neg c2] at htold
          simp_arith [xA, xB, a0p, a0q, a1p, a1q, e1, e2, k1, k2, h2, hs, p_augS, augR_f, addI_ii]
          exact ⟨a, b + 1, told2, some _, some _, by rw [ep]; rfl, by omega, by omega, by omega, by omega, htold⟩
theorem meet_ok {d e : D} {ps qs : List (Int × Int)} (h : Lot d ps) (ho : OkP ps) (hl : ps.length ≤ 10000) (h' : Lot e qs) (ho' : OkP qs) (hl' : qs.length ≤ 10000) : F_lot_meet [.fro d, .fro e] = .ok (.fro (.tuple (prs (meetP ((joinP ps).length + (joinP qs).length) (joinP ps) (joinP qs))))) none := by
  have h1 := pairs_ok h ho (by omega)
  have h2 := opairs_ok h' ho' (by omega)
  have h3 := joined_ok (ps := ps) (by omega)
  have h4 := joined_ok (ps := qs) (by omega)
  have h5 := shared_ok (A := joinP ps) (B := joinP qs) (by have := joinP_len ps; omega) (by have := joinP_len qs; omega)
  refine fd_post (R := fun r => r = .ok (.fro (.tuple (prs (meetP ((joinP ps).length + (joinP qs).length) (joinP ps) (joinP qs))))) none) rfl ?_
  simp_arith [d_lot_meet, h1, h2, h3, h4, h5]
  exact ⟨_, rfl, rfl⟩
end G00
namespace G00
open PySem L2 Mw
/-! # plain: least forms of hours -/
theorem leastP_spec (ns : List Int) : Sep (leastP (sdd ns)) ∧ ∀ z, InP (leastP (sdd ns)) z ↔ z ∈ ns := by
  have ho : OkP (ns.map fun n => (n, n)) := fun p hp => by
    obtain ⟨n, _, rfl⟩ := List.mem_map.mp hp
    exact Int.le_refl _
  obtain ⟨h1, h2⟩ := joinP_spec ho
  have hz : ∀ z, InP (ns.map fun n => (n, n)) z ↔ z ∈ ns := fun z => by
    unfold InP
    constructor
    · rintro ⟨p, hp, k1, k2⟩
      obtain ⟨n, hn, rfl⟩ := List.mem_map.mp hp
      have k1 : n ≤ z := k1
      have k2 : z ≤ n := k2
      obtain rfl : n = z := by omega
      exact hn
    · intro hn
      exact ⟨(z, z), List.mem_map.mpr ⟨z, hn, rfl⟩, Int.le_refl _, Int.le_refl _⟩
  have e : leastP (sdd ns) = joinP (ns.map fun n => (n, n)) := least_of h1 fun z => ((hz z).symm.trans (h2 z).symm)
  rw [e]
  exact ⟨h1, fun z => (h2 z).trans (hz z)⟩
theorem leastP_len (ns : List Int) : (leastP ns).length ≤ ns.length := by
  have := foldP_len ns []
  unfold leastP
  simpa using this
/-! ## blocks -/
def blk (size move : Int) (ps : List (Int × Int)) : List (Int × Int) := ps.map fun p => (p.1 * size + move, p.2 * size + size - 1 + move)
theorem blk_len (size move : Int) (ps : List (Int × Int)) : (blk size move ps).length = ps.length := List.length_map _
theorem blk_app (size move : Int) (ps qs : List (Int × Int)) : blk size move (ps ++ qs) = blk size move ps ++ blk size move qs := List.map_append
theorem in_blk1 {size move x y z : Int} (hs : 1 ≤ size) : (x * size + move ≤ z ∧ z ≤ y * size + size - 1 + move) ↔ (x ≤ (z - move) / size ∧ (z - move) / size ≤ y) := by
  have a1 := Int.le_ediv_iff_mul_le (a := x) (b := z - move) (c := size) (by omega)
  have a2 := Int.ediv_lt_iff_lt_mul (a := z - move) (b := y + 1) (c := size) (by omega)
  have e : (y + 1) * size = y * size + size := by rw [Int.add_mul, Int.one_mul]
  rw [e] at a2
  constructor
  · rintro ⟨h1, h2⟩
    exact ⟨a1.mpr (by omega), by have := a2.mpr (by omega); omega⟩
  · rintro ⟨h1, h2⟩
    have k1 := a1.mp h1
    have k2 := a2.mp (by omega)
    omega
theorem in_blk {size move z : Int} (hs : 1 ≤ size) {ps : List (Int × Int)} : InP (blk size move ps) z ↔ InP ps ((z - move) / size) := by
  unfold InP blk
  constructor
  · rintro ⟨p, hp, h⟩
    obtain ⟨q, hq, rfl⟩ := List.mem_map.mp hp
    exact ⟨q, hq, (in_blk1 hs).mp h⟩
  · rintro ⟨q, hq, h⟩
    exact ⟨_, List.mem_map.mpr ⟨q, hq, rfl⟩, (in_blk1 hs).mpr h⟩
theorem blk_ok {size move : Int} (hs : 1 ≤ size) {ps : List (Int × Int)} (h : OkP ps) : OkP (blk size move ps) := fun p hp => by
  obtain ⟨q, hq, rfl⟩ := List.mem_map.mp hp
  have := h q hq
  have : q.1 * size ≤ q.2 * size := Int.mul_le_mul_of_nonneg_right this (by omega)
  show q.1 * size + move ≤ q.2 * size + size - 1 + move
  omega
theorem blk_sep {size move : Int} (hs : 1 ≤ size) {ps : List (Int × Int)} (h : Sep ps) : Sep (blk size move ps) := by
  refine ⟨?_, blk_ok hs h.2⟩
  unfold blk
  rw [List.pairwise_map]
  refine h.1.imp fun {p q} hpq => ?_
  have : (p.2 + 2) * size ≤ q.1 * size := Int.mul_le_mul_of_nonneg_right (by omega) (by omega)
  rw [Int.add_mul] at this
  show p.2 * size + size - 1 + move + 1 < q.1 * size + move
  omega
/-- hours told by stretches -/
def Tells (ns : List Int) (ps : List (Int × Int)) : Prop := ∀ z, z ∈ ns ↔ InP ps z
theorem least_join {size move : Int} (hs : 1 ≤ size) {ps : List (Int × Int)} {ns : List Int} (ho : OkP ps) (ht : Tells ns ps) : joinP (blk size move ps) = blk size move (leastP (sdd ns)) := by
  obtain ⟨h1, h2⟩ := leastP_spec ns
  refine joinP_is (blk_ok hs ho) (blk_sep hs h1) fun z => ?_
  rw [in_blk hs, in_blk hs, h2, ht]
/-! ## count -/
theorem countP_app (a b : List (Int × Int)) : countP (a ++ b) = countP a + countP b := by
  unfold countP
  rw [List.map_append, List.sum_append]
theorem count_runs : ∀ L : List (Int × Int), OkP L → countP L = (runs L).length
  | [], _ => rfl
  | p :: L, h => by
    have ih := count_runs L fun q hq => h q (List.mem_cons_of_mem _ hq)
    have hp := h p (List.mem_cons_self ..)
    have e1 : countP (p :: L) = (p.2 - p.1 + 1) + countP L := rfl
    have e2 : runs (p :: L) = upI p.1 (p.2 - p.1 + 1).toNat ++ runs L := by unfold runs; rw [List.flatMap_cons]
    rw [e1, e2, List.length_append, upI_len, ih]
    omega
theorem count_blk (size move : Int) : ∀ L : List (Int × Int), countP (blk size move L) = countP L * size
  | [] => by simp [countP, blk]
  | p :: L => by
    have ih := count_blk size move L
    have e1 : countP (p :: L) = (p.2 - p.1 + 1) + countP L := rfl
    have e2 : countP (blk size move (p :: L)) = ((p.2 * size + size - 1 + move) - (p.1 * size + move) + 1) + countP (blk size move L) := rfl
    rw [e1, e2, ih]
    rw [Int.add_mul, Int.add_mul, Int.sub_mul, Int.one_mul]
    omega
theorem runs_least (ns : List Int) : runs (leastP (sdd ns)) = sdd ns := by
  obtain ⟨h1, h2⟩ := leastP_spec ns
  exact up_unique (runs_up h1) (sdd_up ns) fun z => runs_mem.trans ((h2 z).trans sdd_mem.symm)
theorem count_least (size move : Int) (ns : List Int) : countP (blk size move (leastP (sdd ns))) = ((sdd ns).length : Int) * size := by
  rw [count_blk, count_runs _ (leastP_spec ns).1.2, runs_least]
/-! ## ends -/
theorem sep_first {p : Int × Int} {L : List (Int × Int)} (h : Sep (p :: L)) {z : Int} (hz : InP (p :: L) z) : p.1 ≤ z := by
  obtain ⟨q, hq, h1, h2⟩ := hz
  rcases List.mem_cons.mp hq with rfl | hq
  · exact h1
  · have := (List.pairwise_cons.mp h.1).1 q hq
    have := h.2 p (List.mem_cons_self ..)
    omega
theorem sep_last {p : Int × Int} {L : List (Int × Int)} (h : Sep (L ++ [p])) {z : Int} (hz : InP (L ++ [p]) z) : z ≤ p.2 := by
  obtain ⟨s1, s2, s3⟩ := sep_snoc.mp h
  obtain ⟨q, hq, h1, h2⟩ := hz
  rcases List.mem_append.mp hq with hq | hq
  · have := s2 q hq
    omega
  · rw [List.mem_singleton.mp hq] at h2; exact h2
theorem sep_tl {p : Int × Int} {L : List (Int × Int)} (h : Sep (p :: L)) : Sep L := ⟨(List.pairwise_cons.mp h.1).2, fun q hq => h.2 q (List.mem_cons_of_mem _ hq)⟩
theorem InP_cons {p : Int × Int} {L : List (Int × Int)} {z : Int} : InP (p :: L) z ↔ (p.1 ≤ z ∧ z ≤ p.2) ∨ InP L z := by
  rw [show p :: L = [p] ++ L from rfl, InP_app, InP_one]
/-! ## holes -/
theorem holes_in : ∀ (L : List (Int × Int)) (p e : Int × Int), Sep (p :: L) → (p :: L).getLast? = some e → ∀ z, InP (holesP (p :: L)) z ↔ p.1 ≤ z ∧ z ≤ e.2 ∧ ¬ InP (p :: L) z
  | [], p, e, h, he, z => by
    have : p = e := by simpa using he
    subst this
    rw [show holesP [p] = [] from rfl, InP_nil, InP_one]
    constructor
    · intro h; exact h.elim
    · rintro ⟨h1, h2, h3⟩; exact h3 ⟨h1, h2⟩
  | q :: r, p, e, h, he, z => by
    have he2 : (q :: r).getLast? = some e := by rw [List.getLast?_cons_cons] at he; exact he
    have ih := holes_in r q e (sep_tl h) he2 z
    have hpq := (List.pairwise_cons.mp h.1).1 q (List.mem_cons_self ..)
    have hp := h.2 p (List.mem_cons_self ..)
    have hq := (sep_tl h).2 q (List.mem_cons_self ..)
    have hel : q.2 ≤ e.2 := by
      obtain ⟨qs, hqs⟩ := List.getLast?_eq_some_iff.mp he2
      have hs := sep_tl h
      rw [hqs] at hs
      exact sep_last hs (z := q.2) (by rw [← hqs]; exact ⟨q, List.mem_cons_self .., hq, Int.le_refl _⟩)
    rw [holesP, InP_cons, ih, InP_cons (p := p)]
    have hfst := fun k => sep_first (sep_tl h) (z := z) k
    constructor
    · rintro (⟨h1, h2⟩ | ⟨h1, h2, h3⟩)
      · have h1 : p.2 + 1 ≤ z := h1
        have h2 : z ≤ q.1 - 1 := h2
        refine ⟨by omega, by omega, ?_⟩
        rintro (k | k)
        · omega
        · have := hfst k; omega
      · refine ⟨by omega, h2, ?_⟩
        rintro (k | k)
        · omega
        · exact h3 k
    · rintro ⟨h1, h2, h3⟩
      have n1 : ¬ (p.1 ≤ z ∧ z ≤ p.2) := fun k => h3 (.inl k)
      have n2 : ¬ InP (q :: r) z := fun k => h3 (.inr k)
      by_cases c : q.1 ≤ z
      · exact .inr ⟨c, h2, n2⟩
      · refine .inl ⟨?_, ?_⟩
        · show p.2 + 1 ≤ z; omega
        · show z ≤ q.1 - 1; omega
theorem holes_sep : ∀ (L : List (Int × Int)), Sep L → Sep (holesP L)
  | [], _ => ⟨.nil, fun _ h => nomatch h⟩
  | [p], _ => ⟨.nil, fun _ h => nomatch h⟩
  | p :: q :: r, h => by
    have ih := holes_sep (q :: r) (sep_tl h)
    have hpq := (List.pairwise_cons.mp h.1).1 q (List.mem_cons_self ..)
    have hq := (sep_tl h).2 q (List.mem_cons_self ..)
    rw [holesP]
    refine ⟨List.pairwise_cons.mpr ⟨fun s hs => ?_, ih.1⟩, fun s hs => ?_⟩
    · have hs2 := ih.2 s hs
      have hin : InP (holesP (q :: r)) s.1 := ⟨s, hs, Int.le_refl _, hs2⟩
      have he : ∃ e, (q :: r).getLast? = some e := ⟨_, List.getLast?_eq_some_getLast (by simp)⟩
      obtain ⟨e, he⟩ := he
      obtain ⟨k1, k2, k3⟩ := (holes_in r q e (sep_tl h) he s.1).mp hin
      have : ¬ s.1 ≤ q.2 := fun c => k3 ⟨q, List.mem_cons_self .., k1, c⟩
      show q.1 - 1 + 1 < s.1
      omega
    · rcases List.mem_cons.mp hs with rfl | hs
      · show p.2 + 1 ≤ q.1 - 1; omega
      · exact ih.2 s hs
theorem holes_blk (size move : Int) : ∀ L : List (Int × Int), holesP (blk size move L) = blk size move (holesP L)
  | [] => rfl
  | [p] => rfl
  | p :: q :: r => by
    have ih := holes_blk size move (q :: r)
    have e : blk size move (p :: q :: r) = (p.1 * size + move, p.2 * size + size - 1 + move) :: (q.1 * size + move, q.2 * size + size - 1 + move) :: blk size move r := rfl
    have e2 : blk size move (q :: r) = (q.1 * size + move, q.2 * size + size - 1 + move) :: blk size move r := rfl
    rw [e2] at ih
    rw [e, holesP, holesP, ih]
    show _ = ((p.2 + 1) * size + move, (q.1 - 1) * size + size - 1 + move) :: blk size move (holesP (q :: r))
    rw [Int.add_mul, Int.sub_mul, Int.one_mul]
    congr 2
    · show p.2 * size + size - 1 + move + 1 = _; omega
    · show q.1 * size + move - 1 = _; omega
/-! ## cut, shift, meet -/
theorem cutP_in (f l : Option Int) : ∀ {ps : List (Int × Int)} {z : Int}, InP (cutP f l ps) z ↔ InP ps z ∧ (∀ i, f = some i → i ≤ z) ∧ (∀ i, l = some i → z ≤ i)
  | [], z => by
    show InP [] z ↔ InP [] z ∧ _
    rw [InP_nil, false_and]
  | p :: ps, z => by
    have ih := cutP_in f l (ps := ps) (z := z)
    have hone : InP (if lowO f p.1 ≤ highO l p.2 then [(lowO f p.1, highO l p.2)] else []) z ↔ (p.1 ≤ z ∧ z ≤ p.2) ∧ (∀ i, f = some i → i ≤ z) ∧ (∀ i, l = some i → z ≤ i) := by
      have hf : lowO f p.1 ≤ z ↔ p.1 ≤ z ∧ (∀ i, f = some i → i ≤ z) := by
        cases f with
        | none => exact ⟨fun h => ⟨h, fun i hi => nomatch hi⟩, fun h => h.1⟩
        | some j =>
          have e : lowO (some j) p.1 = if p.1 < j then j else p.1 := rfl
          rw [e]
          constructor
          · intro h
            split at h
            · exact ⟨by omega, fun i hi => by cases hi; exact h⟩
            · exact ⟨h, fun i hi => by cases hi; omega⟩
          · rintro ⟨h1, h2⟩
            have := h2 j rfl
            split <;> omega
      have hl : z ≤ highO l p.2 ↔ z ≤ p.2 ∧ (∀ i, l = some i → z ≤ i) := by
        cases l with
        | none => exact ⟨fun h => ⟨h, fun i hi => nomatch hi⟩, fun h => h.1⟩
        | some j =>
          have e : highO (some j) p.2 = if j < p.2 then j else p.2 := rfl
          rw [e]
          constructor
          · intro h
            split at h
            · exact ⟨by omega, fun i hi => by cases hi; exact h⟩
            · exact ⟨h, fun i hi => by cases hi; omega⟩
          · rintro ⟨h1, h2⟩
            have := h2 j rfl
            split <;> omega
      constructor
      · intro h
        split at h
        · obtain ⟨k1, k2⟩ := InP_one.mp h
          obtain ⟨a1, a2⟩ := hf.mp k1
          obtain ⟨b1, b2⟩ := hl.mp k2
          exact ⟨⟨a1, b1⟩, a2, b2⟩
        · exact (InP_nil.mp h).elim
      · rintro ⟨⟨a1, b1⟩, a2, b2⟩
        have k1 := hf.mpr ⟨a1, a2⟩
        have k2 := hl.mpr ⟨b1, b2⟩
        rw [if_pos (by omega)]
        exact InP_one.mpr ⟨k1, k2⟩
    rw [cutP, InP_app, hone, ih, InP_cons]
    constructor
    · rintro (⟨h1, h2⟩ | ⟨h1, h2⟩)
      · exact ⟨.inl h1, h2⟩
      · exact ⟨.inr h1, h2⟩
    · rintro ⟨h1 | h1, h2⟩
      · exact .inl ⟨h1, h2⟩
      · exact .inr ⟨h1, h2⟩
theorem low_ge (f : Option Int) (x : Int) : x ≤ lowO f x := by
  cases f with
  | none => exact Int.le_refl _
  | some j => show x ≤ if x < j then j else x; split <;> omega
theorem high_le (f : Option Int) (x : Int) : highO f x ≤ x := by
  cases f with
  | none => exact Int.le_refl _
  | some j => show (if j < x then j else x) ≤ x; split <;> omega
theorem cutP_sub (f l : Option Int) : ∀ {ps : List (Int × Int)} {r : Int × Int}, r ∈ cutP f l ps → ∃ p ∈ ps, p.1 ≤ r.1 ∧ r.2 ≤ p.2 ∧ r.1 ≤ r.2
  | p :: ps, r, h => by
    rw [cutP] at h
    rcases List.mem_append.mp h with h | h
    · split at h
      · rename_i c
        rw [List.mem_singleton.mp h]
        exact ⟨p, List.mem_cons_self .., low_ge _ _, high_le _ _, c⟩
      · cases h
    · obtain ⟨q, hq, k⟩ := cutP_sub f l h
      exact ⟨q, List.mem_cons_of_mem _ hq, k⟩
theorem cutP_ok (f l : Option Int) (ps : List (Int × Int)) : OkP (cutP f l ps) := fun r hr => by
  obtain ⟨p, hp, k1, k2, k3⟩ := cutP_sub f l hr
  exact k3
theorem cutP_sep (f l : Option Int) : ∀ {ps : List (Int × Int)}, Sep ps → Sep (cutP f l ps)
  | [], _ => ⟨.nil, fun _ h => nomatch h⟩
  | p :: ps, h => by
    have ih := cutP_sep f l (sep_tl h)
    refine ⟨?_, cutP_ok f l _⟩
    rw [cutP, List.pairwise_append]
    refine ⟨by split <;> simp, ih.1, fun a ha b hb => ?_⟩
    obtain ⟨q, hq, k1, k2, k3⟩ := cutP_sub f l hb
    have := (List.pairwise_cons.mp h.1).1 q hq
    split at ha
    · rw [List.mem_singleton.mp ha]
      have := high_le l p.2
      show highO l p.2 + 1 < b.1
      omega
    · cases ha
theorem cut_join {L ps : List (Int × Int)} (f l : Option Int) (hL : Sep L) (h : ∀ z, InP ps z ↔ InP L z) : joinP (cutP f l ps) = cutP f l L :=
  joinP_is (cutP_ok f l ps) (cutP_sep f l hL) fun z => by rw [cutP_in, cutP_in, h z]
theorem addP_in (b : Int) {ps : List (Int × Int)} {z : Int} : InP (addP b ps) z ↔ InP ps (z - b) := by
  unfold InP addP
  constructor
  · rintro ⟨p, hp, h1, h2⟩
    obtain ⟨q, hq, rfl⟩ := List.mem_map.mp hp
    have h1 : q.1 + b ≤ z := h1
    have h2 : z ≤ q.2 + b := h2
    exact ⟨q, hq, by omega, by omega⟩
  · rintro ⟨q, hq, h1, h2⟩
    exact ⟨_, List.mem_map.mpr ⟨q, hq, rfl⟩, by show q.1 + b ≤ z; omega, by show z ≤ q.2 + b; omega⟩
theorem addP_ok (b : Int) {ps : List (Int × Int)} (h : OkP ps) : OkP (addP b ps) := fun p hp => by
  obtain ⟨q, hq, rfl⟩ := List.mem_map.mp hp
  have := h q hq
  show q.1 + b ≤ q.2 + b
  omega
theorem addP_sep (b : Int) {ps : List (Int × Int)} (h : Sep ps) : Sep (addP b ps) := by
  refine ⟨?_, addP_ok b h.2⟩
  unfold addP
  rw [List.pairwise_map]
  refine h.1.imp fun {p q} hpq => ?_
  show p.2 + b + 1 < q.1 + b
  omega
theorem shift_join {L ps : List (Int × Int)} (b : Int) (ho : OkP ps) (hL : Sep L) (h : ∀ z, InP ps z ↔ InP L z) : joinP (addP b ps) = addP b L :=
  joinP_is (addP_ok b ho) (addP_sep b hL) fun z => by rw [addP_in, addP_in, h]
theorem maxI_le {a b z : Int} : maxI a b ≤ z ↔ a ≤ z ∧ b ≤ z := by
  unfold maxI; split <;> omega
theorem le_minI {a b z : Int} : z ≤ minI a b ↔ z ≤ a ∧ z ≤ b := by
  unfold minI; split <;> omega
theorem metP_in {p q : Int × Int} {z : Int} : InP (metP p q) z ↔ (p.1 ≤ z ∧ z ≤ p.2) ∧ (q.1 ≤ z ∧ z ≤ q.2) := by
  unfold metP
  constructor
  · intro h
    split at h
    · obtain ⟨k1, k2⟩ := InP_one.mp h
      obtain ⟨a1, a2⟩ := maxI_le.mp k1
      obtain ⟨b1, b2⟩ := le_minI.mp k2
      exact ⟨⟨a1, b1⟩, a2, b2⟩
    · exact (InP_nil.mp h).elim
  · rintro ⟨⟨a1, b1⟩, a2, b2⟩
    have k1 := maxI_le.mpr ⟨a1, a2⟩
    have k2 := le_minI.mpr ⟨b1, b2⟩
    rw [if_pos (by omega)]
    exact InP_one.mpr ⟨k1, k2⟩
theorem meetP_spec : ∀ (n : Nat) (A B : List (Int × Int)), A.length + B.length ≤ n → Sep A → Sep B → Sep (meetP n A B) ∧ ∀ z, InP (meetP n A B) z ↔ InP A z ∧ InP B z
  | n, [], B, _, _, _ => by
    rw [meetP_nl]
    exact ⟨⟨.nil, fun _ h => nomatch h⟩, fun z => by rw [InP_nil, false_and]⟩
  | n, p :: ps, [], _, _, _ => by
    rw [meetP_nr]
    exact ⟨⟨.nil, fun _ h => nomatch h⟩, fun z => by rw [InP_nil, and_false]⟩
  | 0, p :: ps, q :: qs, h, _, _ => by simp at h
  | n + 1, p :: ps, q :: qs, h, hA, hB => by
    simp only [List.length_cons] at h
    have hp := hA.2 p (List.mem_cons_self ..)
    have hq := hB.2 q (List.mem_cons_self ..)
    have core : ∀ R : List (Int × Int), Sep R → (∀ z, InP R z → minI p.2 q.2 + 1 < z ) → Sep (metP p q ++ R) := fun R hR hz => by
      unfold metP
      split
      · rename_i c
        refine ⟨List.pairwise_cons.mpr ⟨fun r hr => ?_, hR.1⟩, fun r hr => ?_⟩
        · exact hz r.1 ⟨r, hr, Int.le_refl _, hR.2 r hr⟩
        · rcases List.mem_cons.mp hr with rfl | hr
          · exact c
          · exact hR.2 r hr
      · exact hR
    rw [meetP]
    by_cases c : p.2 < q.2
    · rw [if_pos c]
      obtain ⟨s, hs⟩ := meetP_spec n ps (q :: qs) (by simp only [List.length_cons]; omega) (sep_tl hA) hB
      have far : ∀ z, InP ps z → p.2 + 1 < z := fun z ⟨r, hr, k1, k2⟩ => by have := (List.pairwise_cons.mp hA.1).1 r hr; omega
      have emin : minI p.2 q.2 = p.2 := by unfold minI; rw [if_neg (by omega)]
      refine ⟨core _ s fun z hz => by rw [emin]; exact far z ((hs z).mp hz).1, fun z => ?_⟩
      rw [InP_app, metP_in, hs z, InP_cons (p := p), InP_cons (p := q)]
      constructor
      · rintro (⟨h1, h2⟩ | ⟨h1, h2⟩)
        · exact ⟨.inl h1, .inl h2⟩
        · exact ⟨.inr h1, h2⟩
      · rintro ⟨h1 | h1, h2⟩
        · rcases h2 with h2 | h2
          · exact .inl ⟨h1, h2⟩
          · obtain ⟨r, hr, k1, k2⟩ := h2
            have := (List.pairwise_cons.mp hB.1).1 r hr
            omega
        · exact .inr ⟨h1, h2⟩
    · rw [if_neg c]
      obtain ⟨s, hs⟩ := meetP_spec n (p :: ps) qs (by simp only [List.length_cons]; omega) hA (sep_tl hB)
      have far : ∀ z, InP qs z → q.2 + 1 < z := fun z ⟨r, hr, k1, k2⟩ => by have := (List.pairwise_cons.mp hB.1).1 r hr; omega
      have emin : minI p.2 q.2 ≤ q.2 := (le_minI.mp (Int.le_refl _)).2
      refine ⟨core _ s fun z hz => by have := far z ((hs z).mp hz).2; omega, fun z => ?_⟩
      rw [InP_app, metP_in, hs z, InP_cons (p := p), InP_cons (p := q)]
      constructor
      · rintro (⟨h1, h2⟩ | ⟨h1, h2⟩)
        · exact ⟨.inl h1, .inl h2⟩
        · exact ⟨h1, .inr h2⟩
      · rintro ⟨h1, h2 | h2⟩
        · rcases h1 with h1 | h1
          · exact .inl ⟨h1, h2⟩
          · obtain ⟨r, hr, k1, k2⟩ := h1
            have := (List.pairwise_cons.mp hA.1).1 r hr
            omega
        · exact .inr ⟨h1, h2⟩
end G00
namespace G00
open PySem L2 Mw
/-! # what the law's own defs tell -/
theorem sset_i {ns : List Int} (h : (sdd ns).length ≤ 4000) : ssetF [.list (iD ns)] = some (.lstN (iD (sdd ns))) := sset_ok h
theorem least_ok {ns : List Int} (h : (sdd ns).length ≤ 4000) : F__law_least_form [.fro (.list (iD ns))] = .ok (.fro (.tuple (prs (leastP (sdd ns))))) none := by
  have hL : (leastP (sdd ns)).length ≤ 4000 := by have := leastP_len (sdd ns); omega
  refine fd_post (R := fun r => r = .ok (.fro (.tuple (prs (leastP (sdd ns))))) none) rfl ?_
  have hg : ∀ (ok : Fl → List Sl → Prop) (ex : Nat → Str → D → List Sl → Prop) (d : D), Post ok ex (leastG (iD (sdd ns)) [.fro d, .own [], .un, .un]) = ok .nx [.fro d, .own ((leastP (sdd ns)).map prL), .un, .un] := fun ok ex d => p_leastG (by omega)
  have h0 : 0 ≤ SZ := Nat.zero_le _
  have h2 : 2 ≤ SZ := by decide
  simp_arith [d__law_least_form, p_leastS, hg, sset_i h, h0]
  refine lc_wp (fun i acc g => g = [.fro (.list (iD ns)), .fro (.list ((leastP (sdd ns)).map prL)), .un, .un] ∧ acc = prs ((leastP (sdd ns)).take i)) ⟨rfl, rfl⟩ ?_ ?_
  · rintro i d acc g hi ⟨rfl, rfl⟩
    obtain ⟨p, hp, rfl⟩ := ent_get hi
    have hs : (prs ((leastP (sdd ns)).take i)).length < SZ := lt_SZ (by rw [prs_len, List.length_take]; omega)
    simp_arith [prL, at0, at1, h2, hs]
    exact ⟨trivial, trivial, (prs_take hp).symm⟩
  · rintro acc g ⟨rfl, rfl⟩
    rw [List.length_map, List.take_length]
    simp_arith []
    exact ⟨_, rfl, rfl⟩
theorem copy_in {ps : List (Int × Int)} {x0 x1 x2 : Sl} {Q : List D → List Sl → Prop} (hl : ps.length ≤ 100000) (q : Q (prs ps) [x0, x1, x2, .un]) : Post Q (fun _ _ _ _ => False) (lcL [3] (.one 3) (ret true) (vr 3) [] (prs ps) [x0, x1, x2, .un]) := by
  refine lc_wp (fun i acc g => g = [x0, x1, x2, .un] ∧ acc = prs (ps.take i)) ⟨rfl, rfl⟩ ?_ ?_
  · rintro i d acc g hi ⟨rfl, rfl⟩
    obtain ⟨p, hp, rfl⟩ := prs_get hi
    have hs : (prs (ps.take i)).length < SZ := lt_SZ (by rw [prs_len, List.length_take]; omega)
    simp_arith [hs]
    exact ⟨trivial, trivial, (prs_take hp).symm⟩
  · rintro acc g ⟨rfl, rfl⟩
    rw [prs_len, List.take_length]
    exact q
theorem prL_take {ps : List (Int × Int)} {i : Nat} {p : Int × Int} (h : ps[i]? = some p) : (ps.take (i + 1)).map prL = (ps.take i).map prL ++ [prL p] := by
  rw [List.take_add_one, h, List.map_append]; rfl
theorem list_in {ps : List (Int × Int)} {x0 x1 x2 : Sl} {Q : List D → List Sl → Prop} (hl : ps.length ≤ 100000) (q : Q (ps.map prL) [x0, x1, x2, .un]) : Post Q (fun _ _ _ _ => False) (lcL [3] (.one 3) (ret true) (opN listF (argsCons (vr 3) argsNil)) [] (prs ps) [x0, x1, x2, .un]) := by
  refine lc_wp (fun i acc g => g = [x0, x1, x2, .un] ∧ acc = (ps.take i).map prL) ⟨rfl, rfl⟩ ?_ ?_
  · rintro i d acc g hi ⟨rfl, rfl⟩
    obtain ⟨p, hp, rfl⟩ := prs_get hi
    have hs : ((ps.take i).map prL).length < SZ := lt_SZ (by rw [List.length_map, List.length_take]; omega)
    simp_arith [hs, prQ]
    exact ⟨trivial, trivial, (prL_take hp).symm⟩
  · rintro acc g ⟨rfl, rfl⟩
    rw [prs_len, List.take_length]
    exact q
theorem as_even {ps : List (Int × Int)} {w : Int} (hl : ps.length ≤ 100000) (hw : w = 0 ∨ w = 2) : ∃ f, Ent f ∧ F__law_as [.fro (.tuple (prs ps)), .fro (.int w)] = .ok (.fro (.tuple (ps.map f))) none := by
  rcases hw with rfl | rfl
  · refine ⟨prQ, .inl rfl, ?_⟩
    refine fd_post (R := fun r => r = .ok (.fro (.tuple (ps.map prQ))) none) rfl ?_
    simp_arith [d__law_as]
    refine copy_in hl ?_
    simp_arith []
    exact ⟨_, rfl, rfl⟩
  · refine ⟨prL, .inr rfl, ?_⟩
    refine fd_post (R := fun r => r = .ok (.fro (.tuple (ps.map prL))) none) rfl ?_
    simp_arith [d__law_as]
    refine copy_in hl ?_
    simp_arith []
    refine list_in hl ?_
    simp_arith []
    exact ⟨_, rfl, rfl⟩
theorem as_odd {ps : List (Int × Int)} {w : Int} (hl : ps.length ≤ 100000) (hw : w = 1 ∨ w = 3) : ∃ f, Ent f ∧ F__law_as [.fro (.tuple (prs ps)), .fro (.int w)] = .ok (.own (ps.map f)) none := by
  rcases hw with rfl | rfl
  · refine ⟨prQ, .inl rfl, ?_⟩
    refine fd_post (R := fun r => r = .ok (.own (ps.map prQ)) none) rfl ?_
    simp_arith [d__law_as]
    refine copy_in hl ?_
    simp_arith []
    exact ⟨_, rfl, rfl⟩
  · refine ⟨prL, .inr rfl, ?_⟩
    refine fd_post (R := fun r => r = .ok (.own (ps.map prL)) none) rfl ?_
    simp_arith [d__law_as]
    refine copy_in hl ?_
    simp_arith []
    refine list_in hl ?_
    simp_arith []
    exact ⟨_, rfl, rfl⟩
/-- stretches of the size that the law builds -/
def Bnd (ps : List (Int × Int)) : Prop := ∀ p ∈ ps, -1000 ≤ p.1 ∧ p.1 ≤ 1000 ∧ -1000 ≤ p.2 ∧ p.2 ≤ 1000
theorem blk_take (size move : Int) {ps : List (Int × Int)} {i : Nat} {p : Int × Int} (h : ps[i]? = some p) : prs (blk size move (ps.take (i + 1))) = prs (blk size move (ps.take i)) ++ [.tuple [.int (p.1 * size + move), .int (p.2 * size + size - 1 + move)]] := by
  unfold blk
  rw [List.take_add_one, h, List.map_append, prs_app]; rfl
theorem blocks_ok {ps : List (Int × Int)} {size move : Int} (hb : Bnd ps) (hl : ps.length ≤ 100000) (s1 : 1 ≤ size) (s2 : size ≤ BB) : F__law_blocks [.fro (.tuple (prs ps)), .fro (.int size), .fro (.int move)] = .ok (.fro (.tuple (prs (blk size move ps)))) none := by
  have h2 : 2 ≤ SZ := by decide
  refine fd_post (R := fun r => r = .ok (.fro (.tuple (prs (blk size move ps)))) none) rfl ?_
  simp_arith [d__law_blocks]
  refine lc_wp (fun i acc g => g = [.fro (.tuple (prs ps)), .fro (.int size), .fro (.int move), .un] ∧ acc = prs (blk size move (ps.take i))) ⟨rfl, rfl⟩ ?_ ?_
  · rintro i d acc g hi ⟨rfl, rfl⟩
    obtain ⟨p, hp, rfl⟩ := prs_get hi
    obtain ⟨b1, b2, b3, b4⟩ := hb p (List.mem_of_getElem? hp)
    have m1 : mulOk p.1 size = true := mulOk_b (by rw [BB_is]; omega) (by rw [BB_is]; omega) (by rw [BB_is]; omega) s2
    have m2 : mulOk p.2 size = true := mulOk_b (by rw [BB_is]; omega) (by rw [BB_is]; omega) (by rw [BB_is]; omega) s2
    have hs : (prs (blk size move (ps.take i))).length < SZ := lt_SZ (by rw [prs_len, blk_len, List.length_take]; omega)
    simp_arith [prQ, atp0, atp1, m1, m2, h2, hs]
    exact ⟨trivial, trivial, (blk_take size move hp).symm⟩
  · rintro acc g ⟨rfl, rfl⟩
    rw [prs_len, List.take_length]
    simp_arith []
    exact ⟨_, rfl, rfl⟩
theorem clip_ok {ps : List (Int × Int)} {f l : Option Int} (hl : ps.length ≤ 100000) : F__law_clip [.fro (.tuple (prs ps)), .fro (opD f), .fro (opD l)] = .ok (.fro (.tuple (prs (cutP f l ps)))) none := by
  have h0 : 0 ≤ SZ := Nat.zero_le _
  have h2 : 2 ≤ SZ := by decide
  refine fd_post (R := fun r => r = .ok (.fro (.tuple (prs (cutP f l ps)))) none) rfl ?_
  simp_arith [d__law_clip, h0]
  refine for_nx (fun i g => ∃ o4 o5 o6, g = [.fro (.tuple (prs ps)), .fro (opD f), .fro (opD l), .own (prs (cutP f l (ps.take i))), opn o4, opn o5, opn o6]) ⟨none, none, none, rfl⟩ ?_ ?_
  · rintro i d g hi ⟨o4, o5, o6, rfl⟩
    obtain ⟨p, hp, rfl⟩ := prs_get hi
    have hs : (prs (cutP f l (ps.take i))).length < SZ := lt_SZ (by
      have := cutP_len f l (ps.take i)
      rw [prs_len]; rw [List.length_take] at this; omega)
    rw [cutP_take f l hp]
    have hend : ∀ x y : Int, Post (fun fl g' => match fl with
        | .nx => ∃ o4 o5 o6, g' = [.fro (.tuple (prs ps)), .fro (opD f), .fro (opD l), .own (prs (cutP f l (ps.take i)) ++ if x ≤ y then [.tuple [.int x, .int y]] else []), opn o4, opn o5, opn o6]
        | .ct => ∃ o4 o5 o6, g' = [.fro (.tuple (prs ps)), .fro (opD f), .fro (opD l), .own (prs (cutP f l (ps.take i)) ++ if x ≤ y then [.tuple [.int x, .int y]] else []), opn o4, opn o5, opn o6]
        | .bk => False
        | .rt _ => False) (fun _ _ _ _ => False) (ifS (tstE (op2 leD (vr 5) (vr 6))) (exprS (apE 3 (tupE (argsCons (vr 5) (argsCons (vr 6) argsNil))))) nxS [.fro (.tuple (prs ps)), .fro (opD f), .fro (opD l), .own (prs (cutP f l (ps.take i))), .fro (.tuple [.int p.1, .int p.2]), .fro (.int x), .fro (.int y)]) := fun x y => by
      by_cases c : x ≤ y
      · have hd : decide (x ≤ y) = true := decide_eq_true c
        rw [if_pos c]
        simp_arith [hd, h2, hs]
        exact ⟨some _, some _, some _, rfl⟩
      · have hd : decide (x ≤ y) = false := decide_eq_false c
        rw [if_neg c]
        simp_arith [hd]
        exact ⟨some _, some _, some _, rfl⟩
    generalize (ifS (tstE (op2 leD (vr 5) (vr 6))) (exprS (apE 3 (tupE (argsCons (vr 5) (argsCons (vr 6) argsNil))))) nxS) = tl at hend ⊢
    have hmid : ∀ x y : Int, Post (fun fl g' => match fl with
        | .nx => ∃ o4 o5 o6, g' = [.fro (.tuple (prs ps)), .fro (opD f), .fro (opD l), .own (prs (cutP f l (ps.take i)) ++ if x ≤ highO l y then [.tuple [.int x, .int (highO l y)]] else []), opn o4, opn o5, opn o6]
        | .ct => ∃ o4 o5 o6, g' = [.fro (.tuple (prs ps)), .fro (opD f), .fro (opD l), .own (prs (cutP f l (ps.take i)) ++ if x ≤ highO l y then [.tuple [.int x, .int (highO l y)]] else []), opn o4, opn o5, opn o6]
        | .bk => False
        | .rt _ => False) (fun _ _ _ _ => False) (seqS (ifS (andT (tstE (op1 noNF (vr 2))) (tstE (op2 gtD (vr 6) (vr 2)))) (asgS 6 (vr 2)) nxS) tl [.fro (.tuple (prs ps)), .fro (opD f), .fro (opD l), .own (prs (cutP f l (ps.take i))), .fro (.tuple [.int p.1, .int p.2]), .fro (.int x), .fro (.int y)]) := fun x y => by
      cases l with
      | none =>
        have := hend x y
        simp_arith [opD]
        exact this
      | some j =>
        unfold highO
        by_cases c : j < y
        · have hd : decide (j < y) = true := decide_eq_true c
          have := hend x j
          simp only [if_pos c]
          simp_arith [opD, hd]
          exact this
        · have hd : decide (j < y) = false := decide_eq_false c
          have := hend x y
          simp only [if_neg c]
          simp_arith [opD, hd]
          exact this
    generalize (seqS (ifS (andT (tstE (op1 noNF (vr 2))) (tstE (op2 gtD (vr 6) (vr 2)))) (asgS 6 (vr 2)) nxS) tl) = tl2 at hmid ⊢
    cases f with
    | none =>
      have := hmid p.1 p.2
      simp_arith [opD, prQ, atp0, atp1]
      exact this
    | some j =>
      unfold lowO
      by_cases c : p.1 < j
      · have hd : decide (p.1 < j) = true := decide_eq_true c
        have := hmid j p.2
        simp only [if_pos c]
        simp_arith [opD, prQ, hd, atp0, atp1]
        exact this
      · have hd : decide (p.1 < j) = false := decide_eq_false c
        have := hmid p.1 p.2
        simp only [if_neg c]
        simp_arith [opD, prQ, hd, atp0, atp1]
        exact this
  · rintro g ⟨o4, o5, o6, rfl⟩
    rw [prs_len, List.take_length]
    simp_arith []
    exact ⟨_, rfl, rfl⟩
/-! ## the hours -/
def flatP (ps : List (Int × Int)) : List Int := ps.flatMap fun p => upI p.1 (p.2 + 1 - p.1).toNat
theorem flatP_in {ps : List (Int × Int)} {z : Int} : z ∈ flatP ps ↔ InP ps z := by
  unfold flatP InP
  rw [List.mem_flatMap]
  constructor
  · rintro ⟨p, hp, hz⟩
    have := upI_mem.mp hz
    exact ⟨p, hp, by omega, by omega⟩
  · rintro ⟨p, hp, h1, h2⟩
    exact ⟨p, hp, upI_mem.mpr ⟨h1, by omega⟩⟩
theorem flatP_take {ps : List (Int × Int)} {i : Nat} {p : Int × Int} (h : ps[i]? = some p) : flatP (ps.take (i + 1)) = flatP (ps.take i) ++ upI p.1 (p.2 + 1 - p.1).toNat := by
  unfold flatP
  rw [List.take_add_one, h, List.flatMap_append]
  congr 1
  simp
theorem flatP_len : ∀ {ps : List (Int × Int)}, (∀ p ∈ ps, p.2 - p.1 ≤ 100) → (flatP ps).length ≤ 101 * ps.length
  | [], _ => Nat.le_refl _
  | p :: ps, h => by
    have ih := flatP_len (ps := ps) fun q hq => h q (List.mem_cons_of_mem _ hq)
    have := h p (List.mem_cons_self ..)
    unfold flatP at ih ⊢
    rw [List.flatMap_cons, List.length_append, upI_len, List.length_cons]
    omega
/-- what the law draws -/
structure Drw (ps : List (Int × Int)) : Prop where
  len : ps.length ≤ 10
  bnd : ∀ p ∈ ps, -20 ≤ p.1 ∧ p.1 ≤ p.2 ∧ p.2 ≤ 17
theorem Drw.ok {ps : List (Int × Int)} (h : Drw ps) : OkP ps := fun p hp => (h.bnd p hp).2.1
theorem Drw.bd {ps : List (Int × Int)} (h : Drw ps) : Bnd ps := fun p hp => by have := h.bnd p hp; omega
theorem sdd_few {ns : List Int} {a : Int} {n : Nat} (h : ∀ z ∈ ns, a ≤ z ∧ z < a + n) : (sdd ns).length ≤ n := by
  have hsub : ∀ z ∈ sdd ns, z ∈ upI a n := fun z hz => upI_mem.mpr (h z (sdd_mem.mp hz))
  have := List.Nodup.length_le_of_subset (nodup_of_up (sdd_up ns)) hsub
  rwa [upI_len] at this
theorem Drw.hrs {ps : List (Int × Int)} (h : Drw ps) {z : Int} (hz : z ∈ sdd (flatP ps)) : -20 ≤ z ∧ z < -20 + (38 : Nat) := by
  obtain ⟨p, hp, h1, h2⟩ := flatP_in.mp (sdd_mem.mp hz)
  have := h.bnd p hp
  omega
theorem hours_ok {ps : List (Int × Int)} (h : Drw ps) : F__law_hours [.fro (.tuple (prs ps))] = .ok (.own (iD (sdd (flatP ps)))) none := by
  have h0 : 0 ≤ SZ := Nat.zero_le _
  have hfew : (sdd (flatP ps)).length ≤ 4000 := by
    have := sdd_few (ns := flatP ps) (a := -20) (n := 38) fun z hz => h.hrs (sdd_mem.mpr hz)
    omega
  refine fd_post (R := fun r => r = .ok (.own (iD (sdd (flatP ps)))) none) rfl ?_
  simp_arith [d__law_hours, h0]
  refine for_nx (fun i g => ∃ o2, g = [.fro (.tuple (prs ps)), .own (iD (flatP (ps.take i))), opn o2]) ⟨none, rfl⟩ ?_ ?_
  · rintro i d g hi ⟨o2, rfl⟩
    obtain ⟨p, hp, rfl⟩ := prs_get hi
    obtain ⟨b1, b2, b3⟩ := h.bnd p (List.mem_of_getElem? hp)
    have hg : lrngF [.int p.1, .int (p.2 + 1)] = some (.lstN (iD (upI p.1 (p.2 + 1 - p.1).toNat))) := lrng_ok (by omega) (by omega) (by omega) (by omega)
    have hll := flatP_len (ps := ps.take i) fun q hq => by have := h.bnd q (List.mem_of_mem_take hq); omega
    have hl10 := h.len
    rw [List.length_take] at hll
    have ha := addL (xs := iD (flatP (ps.take i))) (ys := iD (upI p.1 (p.2 + 1 - p.1).toNat)) (by rw [iD_len, iD_len, upI_len]; omega)
    rw [flatP_take hp, iD_app]
    simp_arith [prQ, atp0, atp1, hg, ha]
    exact ⟨some _, rfl⟩
  · rintro g ⟨o2, rfl⟩
    rw [prs_len, List.take_length]
    simp_arith [sset_i hfew]
    exact ⟨_, rfl, rfl⟩
/-! ## gaps -/
def gapH (ns : List Int) : List Int := match ns, ns.getLast? with
  | a :: _, some b => (upI a (b + 1 - a).toNat).filter fun z => !decide (z ∈ ns)
  | _, _ => []
theorem filt_in {ns zs : List Int} {x1 : Sl} {b : Bool} {Q : List D → List Sl → Prop} (hl : zs.length ≤ 100000) (q : Q (iD (zs.filter fun z => !decide (z ∈ ns))) [.fro (.list (iD ns)), .un]) :
    Post Q (fun _ _ _ _ => False) (lcL [1] (.one 1) (tstE (op2 (inD true) (vr 1) (vr 0))) (vr 1) [] (iD zs) [.fro (.list (iD ns)), .un]) := by
  refine lc_wp (fun i acc g => g = [.fro (.list (iD ns)), .un] ∧ acc = iD ((zs.take i).filter fun z => !decide (z ∈ ns))) ⟨rfl, rfl⟩ ?_ ?_
  · rintro i d acc g hi ⟨rfl, rfl⟩
    unfold iD at hi
    rw [List.getElem?_map] at hi
    cases e : zs[i]? with
    | none => rw [e] at hi; cases hi
    | some z =>
      rw [e] at hi
      obtain rfl := Option.some.inj hi
      have hin : inD true (.int z) (.list (iD ns)) = _ := inD_t z ns
      have hs : (iD ((zs.take i).filter fun z => !decide (z ∈ ns))).length < SZ := lt_SZ (by
        rw [iD_len]
        have := List.length_filter_le (fun z => !decide (z ∈ ns)) (zs.take i)
        rw [List.length_take] at this; omega)
      have et : zs.take (i + 1) = zs.take i ++ [z] := by rw [List.take_add_one, e]; rfl
      have ef : iD ((zs.take (i + 1)).filter fun z => !decide (z ∈ ns)) = iD ((zs.take i).filter fun z => !decide (z ∈ ns)) ++ iD ([z].filter fun z => !decide (z ∈ ns)) := by rw [et, List.filter_append, iD_app]
      by_cases c : z ∈ ns
      · rw [decide_eq_true c] at hin
        simp_arith [hin]
        refine ⟨trivial, ?_⟩
        rw [ef, List.filter_cons, decide_eq_true c]
        exact (List.append_nil _).symm
      · rw [decide_eq_false c] at hin
        simp_arith [hin, hs]
        refine ⟨trivial, trivial, ?_⟩
        rw [ef, List.filter_cons, decide_eq_false c]; rfl
  · rintro acc g ⟨rfl, rfl⟩
    rw [iD_len, List.take_length]
    exact q
end G00
namespace G00
open PySem L2 Mw
theorem sdd_sdd (ns : List Int) : sdd (sdd ns) = sdd ns := up_unique (sdd_up _) (sdd_up _) fun z => sdd_mem
theorem getLast_iD {ns : List Int} {b : Int} (h : ns.getLast? = some b) : atI (iD ns) (-1) = some (.int b) := by
  obtain ⟨r, rfl⟩ := List.getLast?_eq_some_iff.mp h
  rw [iD_app]
  exact atI_end _ _
theorem head_iD {ns : List Int} {a : Int} {r : List Int} (h : ns = a :: r) : atI (iD ns) 0 = some (.int a) := by
  subst h
  rw [Mw.atI_nat (Int.le_refl _) (by rw [iD_len, List.length_cons]; omega)]; rfl
theorem gapH_in {ns : List Int} {a b : Int} {r : List Int} (h : ns = a :: r) (hb : ns.getLast? = some b) {z : Int} : z ∈ gapH ns ↔ a ≤ z ∧ z ≤ b ∧ z ∉ ns := by
  subst h
  unfold gapH
  rw [hb]
  show z ∈ (upI a (b + 1 - a).toNat).filter (fun z => !decide (z ∈ a :: r)) ↔ _
  rw [List.mem_filter, upI_mem]
  constructor
  · rintro ⟨⟨h1, h2⟩, h3⟩
    refine ⟨h1, by omega, fun k => ?_⟩
    rw [decide_eq_true k] at h3
    cases h3
  · rintro ⟨h1, h2, h3⟩
    refine ⟨⟨h1, by omega⟩, ?_⟩
    rw [decide_eq_false h3]; rfl
theorem gaps_ok {ns : List Int} (hb : ∀ z ∈ ns, -100 ≤ z ∧ z ≤ 100) : F__law_gaps [.fro (.list (iD ns))] = .ok (.fro (.tuple (prs (leastP (sdd (gapH ns)))))) none := by
  have h0s : 0 ≤ SZ := Nat.zero_le _
  refine fd_post (R := fun r => r = .ok (.fro (.tuple (prs (leastP (sdd (gapH ns)))))) none) rfl ?_
  cases ns with
  | nil =>
    have e : iD [] = [] := rfl
    rw [e]
    simp_arith [d__law_gaps, h0s]
    exact ⟨_, rfl, rfl⟩
  | cons a r =>
    obtain ⟨b, hlast⟩ : ∃ b, (a :: r).getLast? = some b := ⟨_, List.getLast?_eq_some_getLast (by simp)⟩
    have a0 := head_iD (ns := a :: r) rfl
    have aL := getLast_iD hlast
    have ba := hb a (List.mem_cons_self ..)
    have bb := hb b (List.mem_of_getLast? hlast)
    have hne : decide (((iD (a :: r)).length : Int) = 0) = false := decide_eq_false (by rw [iD_len, List.length_cons]; omega)
    have r1 : rOk a = true := rOk_le (by omega) (by omega)
    have r2 : rOk (b + 1) = true := rOk_le (by omega) (by omega)
    have hls := least_ok (ns := gapH (a :: r)) (by
      have := sdd_few (ns := gapH (a :: r)) (a := -100) (n := 201) fun z hz => by
        have := (gapH_in rfl hlast).mp hz
        omega
      omega)
    have hgr : (upI a (b + 1 - a).toNat).filter (fun z => !decide (z ∈ a :: r)) = gapH (a :: r) := by
      unfold gapH; rw [hlast]
    simp_arith [d__law_gaps, hne, a0, aL, r1, r2]
    rw [rngL_up]
    refine filt_in (x1 := .un) (b := true) (by rw [upI_len]; omega) ?_
    rw [hgr]
    simp_arith [hls]
    exact ⟨_, rfl, rfl⟩
/-- the hours of drawn stretches -/
def hrsP (ps : List (Int × Int)) : List Int := sdd (flatP ps)
def lstP (ps : List (Int × Int)) : List (Int × Int) := leastP (hrsP ps)
theorem lstP_sep (ps : List (Int × Int)) : Sep (lstP ps) := (leastP_spec _).1
theorem lstP_in (ps : List (Int × Int)) (z : Int) : InP (lstP ps) z ↔ InP ps z := ((leastP_spec _).2 z).trans flatP_in
theorem hrsP_in {ps : List (Int × Int)} {z : Int} : z ∈ hrsP ps ↔ InP ps z := sdd_mem.trans flatP_in
theorem hrsP_up (ps : List (Int × Int)) : (hrsP ps).Pairwise (· < ·) := sdd_up _
theorem first_is {ps : List (Int × Int)} {a : Int} {r : List Int} (h : hrsP ps = a :: r) : ∃ p L, lstP ps = p :: L ∧ p.1 = a := by
  have hu := hrsP_up ps
  rw [h] at hu
  have hmin : ∀ z, InP ps z → a ≤ z := fun z hz => by
    have := hrsP_in.mpr hz
    rw [h] at this
    rcases List.mem_cons.mp this with rfl | hz
    · exact Int.le_refl _
    · exact Int.le_of_lt ((List.pairwise_cons.mp hu).1 z hz)
  have ha : InP ps a := hrsP_in.mp (by rw [h]; exact List.mem_cons_self ..)
  have hin := lstP_in ps
  have hs := lstP_sep ps
  cases e : lstP ps with
  | nil =>
    have := (hin a).mpr ha
    rw [e] at this
    exact (InP_nil.mp this).elim
  | cons p L =>
    rw [e] at hin hs
    have k1 := sep_first hs ((hin a).mpr ha)
    have k2 := hmin p.1 ((hin p.1).mp ⟨p, List.mem_cons_self .., Int.le_refl _, hs.2 p (List.mem_cons_self ..)⟩)
    exact ⟨p, L, rfl, by omega⟩
theorem last_is {ps : List (Int × Int)} {b : Int} (h : (hrsP ps).getLast? = some b) : ∃ p L, lstP ps = L ++ [p] ∧ p.2 = b := by
  obtain ⟨r, h⟩ := List.getLast?_eq_some_iff.mp h
  have hu := hrsP_up ps
  rw [h] at hu
  have hmax : ∀ z, InP ps z → z ≤ b := fun z hz => by
    have := hrsP_in.mpr hz
    rw [h] at this
    rcases List.mem_append.mp this with hz | hz
    · exact Int.le_of_lt ((List.pairwise_append.mp hu).2.2 z hz b (List.mem_singleton.mpr rfl))
    · rw [List.mem_singleton.mp hz]; exact Int.le_refl _
  have ha : InP ps b := hrsP_in.mp (by rw [h]; exact List.mem_append_right _ (List.mem_singleton.mpr rfl))
  have hin := lstP_in ps
  have hs := lstP_sep ps
  rcases List.eq_nil_or_concat (lstP ps) with e | ⟨L, p, e⟩
  · have := (hin b).mpr ha
    rw [e] at this
    exact (InP_nil.mp this).elim
  · rw [List.concat_eq_append] at e
    rw [e] at hin hs
    have k1 := sep_last hs ((hin b).mpr ha)
    have hp : p ∈ L ++ [p] := List.mem_append_right _ (List.mem_singleton.mpr rfl)
    have k2 := hmax p.2 ((hin p.2).mp ⟨p, hp, hs.2 p hp, Int.le_refl _⟩)
    exact ⟨p, L, e, by omega⟩
theorem nil_is {ps : List (Int × Int)} (h : hrsP ps = []) : lstP ps = [] := by unfold lstP; rw [h]; rfl
theorem gap_is (ps : List (Int × Int)) : leastP (sdd (gapH (hrsP ps))) = holesP (lstP ps) := by
  cases e : hrsP ps with
  | nil => rw [nil_is e]; rfl
  | cons a r =>
    obtain ⟨b, hlast⟩ : ∃ b, (a :: r).getLast? = some b := ⟨_, List.getLast?_eq_some_getLast (by simp)⟩
    obtain ⟨p, L, e1, rfl⟩ := first_is e
    obtain ⟨q, L', e2, rfl⟩ := last_is (b := b) (by rw [e]; exact hlast)
    refine least_of (holes_sep _ (lstP_sep ps)) fun z => ?_
    rw [gapH_in rfl hlast]
    show _ ↔ InP (holesP (lstP ps)) z
    have hs := lstP_sep ps
    have hin := lstP_in ps z
    have hl : (lstP ps).getLast? = some q := by rw [e2, List.getLast?_concat]
    rw [e1] at hs hin hl ⊢
    rw [holes_in L p q hs hl, hin, ← e, hrsP_in]
theorem Drw.zb {ps : List (Int × Int)} (h : Drw ps) {z : Int} (hz : z ∈ hrsP ps) : -20 ≤ z ∧ z ≤ 17 := by
  have := h.hrs hz
  omega
theorem sep_bnd {L : List (Int × Int)} (hs : OkP L) (h : ∀ z, InP L z → -1000 ≤ z ∧ z ≤ 1000) : Bnd L := fun p hp => by
  have k := hs p hp
  have k1 := h p.1 ⟨p, hp, Int.le_refl _, k⟩
  have k2 := h p.2 ⟨p, hp, k, Int.le_refl _⟩
  omega
theorem Drw.lst {ps : List (Int × Int)} (h : Drw ps) : Bnd (lstP ps) := sep_bnd (lstP_sep ps).2 fun z hz => by
  have := h.zb (hrsP_in.mpr ((lstP_in ps z).mp hz))
  omega
theorem Drw.hol {ps : List (Int × Int)} (h : Drw ps) : Bnd (holesP (lstP ps)) := by
  refine sep_bnd (holes_sep _ (lstP_sep ps)).2 fun z hz => ?_
  have hb := h.lst
  have hs := lstP_sep ps
  generalize lstP ps = L at *
  cases L with
  | nil => exact (InP_nil.mp hz).elim
  | cons p L =>
    obtain ⟨e, he⟩ : ∃ e, (p :: L).getLast? = some e := ⟨_, List.getLast?_eq_some_getLast (by simp)⟩
    obtain ⟨k1, k2, k3⟩ := (holes_in L p e hs he z).mp hz
    have b1 := hb p (List.mem_cons_self ..)
    have b2 := hb e (List.mem_of_getLast? he)
    omega
theorem Drw.few {ps : List (Int × Int)} (h : Drw ps) : (hrsP ps).length ≤ 38 := sdd_few (ns := flatP ps) (a := -20) (n := 38) fun z hz => h.hrs (sdd_mem.mpr hz)
theorem lstP_len (ps : List (Int × Int)) : (lstP ps).length ≤ (hrsP ps).length := leastP_len _
theorem just_b (b : Bool) : F__law_just [.fro (.bool b), .fro (.bool b)] = .ok (.fro (.bool true)) none := by
  rw [e_just]
  exact just_ok (by rw [plB]) (by simp [szD, szA])
theorem just_n : F__law_just [.fro .none, .fro .none] = .ok (.fro (.bool true)) none := by
  rw [e_just]
  exact just_ok (by rw [plB]) (by simp [szD, szA])
theorem join_is {size move : Int} (s1 : 1 ≤ size) {ps : List (Int × Int)} (ho : OkP ps) : joinP (blk size move ps) = blk size move (lstP ps) :=
  least_join s1 ho fun z => flatP_in
theorem ent_shp {f : Int × Int → D} (hf : Ent f) (ps : List (Int × Int)) : shp (.tuple (ps.map f)) = true ∧ shp (.list (ps.map f)) = true := by
  have h1 : ∀ l : List (Int × Int), PyData.canLayAll0 (l.map f) = true := fun l => by
    induction l with
    | nil => rfl
    | cons p l ih =>
      rw [List.map_cons, PyData.canLayAll0, ih]
      rcases hf with rfl | rfl <;> rfl
  have h2 : ∀ l : List (Int × Int), PyData.depthAll (l.map f) ≤ 2 := fun l => by
    induction l with
    | nil => exact Nat.zero_le _
    | cons p l ih =>
      rw [List.map_cons, PyData.depthAll]
      have : (f p).depth ≤ 2 := by rcases hf with rfl | rfl <;> simp [prQ, prL, PyData.depth, PyData.depthAll]
      omega
  constructor
  · show SeqAt.shaped _ = true
    unfold SeqAt.shaped
    rw [PyData.canLay0, h1 ps, PyData.depth]
    have := h2 ps
    exact decide_eq_true (by omega)
  · show SeqAt.shaped _ = true
    unfold SeqAt.shaped
    rw [PyData.canLay0, h1 ps, PyData.depth]
    have := h2 ps
    exact decide_eq_true (by omega)
theorem Lot.t {f : Int × Int → D} (hf : Ent f) (ps : List (Int × Int)) : Lot (.tuple (ps.map f)) ps := ⟨f, hf, .inr rfl⟩
theorem Lot.l {f : Int × Int → D} (hf : Ent f) (ps : List (Int × Int)) : Lot (.list (ps.map f)) ps := ⟨f, hf, .inl rfl⟩
/-- the bounds of size, where the law draws it -/
structure Siz (size : Int) : Prop where
  lo : 1 ≤ size
  hi : size ≤ 1000000000000000000000000000
theorem Siz.mul {size : Int} (h : Siz size) {z : Int} (h1 : -1000 ≤ z) (h2 : z ≤ 1000) : mulOk z size = true := by
  have := h.lo
  have := h.hi
  exact mulOk_b (by rw [BB_is]; omega) (by rw [BB_is]; omega) (by rw [BB_is]; omega) (by rw [BB_is]; omega)
theorem Siz.bb {size : Int} (h : Siz size) : size ≤ BB := by
  have := h.hi
  rw [BB_is]; omega
theorem has_lo {ps : List (Int × Int)} {size move z : Int} (hs : Siz size) : hasP (blk size move ps) (z * size + move) = decide (z ∈ hrsP ps) := by
  have h1 := hs.lo
  have e : (z * size + move - move) / size = z := by
    rw [Int.add_sub_cancel]
    exact Int.mul_ediv_cancel _ (by omega)
  have hi : InP (blk size move ps) (z * size + move) ↔ InP ps z := by rw [in_blk h1, e]
  by_cases c : z ∈ hrsP ps
  · rw [decide_eq_true c]
    exact hasP_iff.mpr (hi.mpr (hrsP_in.mp c))
  · rw [decide_eq_false c]
    cases k : hasP (blk size move ps) (z * size + move) with
    | false => rfl
    | true => exact absurd (hrsP_in.mpr (hi.mp (hasP_iff.mp k))) c
theorem has_hi {ps : List (Int × Int)} {size move z : Int} (hs : Siz size) : hasP (blk size move ps) (z * size + size - 1 + move) = decide (z ∈ hrsP ps) := by
  have h1 := hs.lo
  have e : (z * size + size - 1 + move - move) / size = z := by
    rw [Int.add_sub_cancel, show z * size + size - 1 = (size - 1) + z * size by omega, Int.add_mul_ediv_right _ _ (by omega), Int.ediv_eq_zero_of_lt (by omega) (by omega), Int.zero_add]
  have hi : InP (blk size move ps) (z * size + size - 1 + move) ↔ InP ps z := by rw [in_blk h1, e]
  by_cases c : z ∈ hrsP ps
  · rw [decide_eq_true c]
    exact hasP_iff.mpr (hi.mpr (hrsP_in.mp c))
  · rw [decide_eq_false c]
    cases k : hasP (blk size move ps) (z * size + size - 1 + move) with
    | false => rfl
    | true => exact absurd (hrsP_in.mpr (hi.mp (hasP_iff.mp k))) c

/-- what the law asks of one lot, its handed data d -/
structure Told (d : D) (ps : List (Int × Int)) (size move : Int) : Prop where
  least : F_least_form [.fro d] = .ok (.fro (.tuple (prs (blk size move (lstP ps))))) none
  count : F_lot_count [.fro d] = .ok (.fro (.int ((hrsP ps).length * size))) none
  first : F_first_hour [.fro d] = .ok (.fro (headD (blk size move (lstP ps)))) none
  last : F_last_hour [.fro d] = .ok (.fro (lastD (blk size move (lstP ps)))) none
  holes : F_lot_holes [.fro d] = .ok (.fro (.tuple (prs (blk size move (holesP (lstP ps)))))) none
  lo : ∀ z, F_has_hour [.fro d, .fro (.int (z * size + move))] = .ok (.fro (.bool (decide (z ∈ hrsP ps)))) none
  hi : ∀ z, F_has_hour [.fro d, .fro (.int (z * size + size - 1 + move))] = .ok (.fro (.bool (decide (z ∈ hrsP ps)))) none
theorem told_of {d : D} {ps : List (Int × Int)} {size move : Int} (h : Drw ps) (hs : Siz size) (hL : Lot d (blk size move ps)) : Told d ps size move := by
  have ho := blk_ok (move := move) hs.lo h.ok
  have hl : (blk size move ps).length ≤ 100000 := by rw [blk_len]; have := h.len; omega
  have hj := join_is (move := move) hs.lo h.ok
  have hc : countP (blk size move (lstP ps)) = ((hrsP ps).length : Int) * size := count_least size move (flatP ps)
  refine ⟨?_, ?_, ?_, ?_, ?_, fun z => ?_, fun z => ?_⟩
  · rw [leastF_ok hL ho hl, hj]
  · rw [count_ok hL ho hl, hj, hc]
  · rw [first_ok hL ho hl, hj]
  · rw [last_ok hL ho hl, hj]
  · rw [holes_ok hL ho hl, hj, holes_blk]
  · rw [has_ok hL ho hl, has_lo hs]
  · rw [has_ok hL ho hl, has_hi hs]
theorem alone_ok {ps : List (Int × Int)} {size move w : Int} (h : Drw ps) (hs : Siz size) (h0 : 0 ≤ w) (h3 : w ≤ 3) :
    F__law_alone [.fro (.tuple (prs (blk size move ps))), .fro (.int w), .fro (.list (iD (hrsP ps))), .fro (.int size), .fro (.int move)] = .ok (.fro (.bool true)) none := by
  have hl : (blk size move ps).length ≤ 100000 := by rw [blk_len]; have := h.len; omega
  have hfew := h.few
  have hll := lstP_len ps
  have ens : sdd (hrsP ps) = hrsP ps := sdd_sdd _
  have q1 := least_ok (ns := hrsP ps) (by rw [ens]; omega)
  rw [ens] at q1
  have q2 := blocks_ok (ps := lstP ps) (move := move) h.lst (by omega) hs.lo hs.bb
  have q3 := gaps_ok (ns := hrsP ps) fun z hz => by have := h.zb hz; omega
  rw [gap_is] at q3
  have q4 := blocks_ok (ps := holesP (lstP ps)) (move := move) h.hol (by rw [holesP_len]; omega) hs.lo hs.bb
  have j1 := told_prs (l := blk size move (lstP ps)) (by rw [blk_len]; omega)
  have j2 := told_prs (l := blk size move (holesP (lstP ps))) (by rw [blk_len, holesP_len]; omega)
  have hlen : ((iD (hrsP ps)).length : Int) = (hrsP ps).length := by rw [iD_len]
  have ml : mulOk ((hrsP ps).length : Int) size = true := hs.mul (by omega) (by omega)
  have r1 : rOk (-22) = true := by decide
  have r2 : rOk 20 = true := by decide
  have hlr : (rngL (-22) (20 - -22 : Int).toNat).length = 42 := rngL_len ..
  have e1 : leastP (hrsP ps) = lstP ps := rfl
  rw [e1] at q1
  have hin : ∀ z, inD false (.int z) (.list (iD (hrsP ps))) = _ := fun z => inD_f z (hrsP ps)
  refine fd_post (R := fun r => r = .ok (.fro (.bool true)) none) rfl ?_
  cases e : hrsP ps with
  | nil =>
    rw [e] at hlen
    have el := nil_is e
    have hgt : decide (0 < ((hrsP ps).length : Int)) = false := by rw [e]; rfl
    have ehd : headD (blk size move (lstP ps)) = .none := by rw [el]; rfl
    have eld : lastD (blk size move (lstP ps)) = .none := by rw [el]; rfl
    rw [← e] at hlen ⊢
    rcases (by omega : (w = 0 ∨ w = 2) ∨ (w = 1 ∨ w = 3)) with cw | cw
    · obtain ⟨f, hf, ha⟩ := as_even (ps := blk size move ps) hl cw
      have T := told_of (move := move) h hs (Lot.t hf (blk size move ps))
      have hne := neD_self (ent_shp hf (blk size move ps)).1
      have t1 := T.least
      have t2 := T.count
      have t3 := T.first
      have t4 := T.last
      have t5 := T.holes
      have t6 := T.lo
      have t7 := T.hi
      rw [ehd] at t3
      rw [eld] at t4
      simp_arith [d__law_alone, q1, q2, q3, q4, hlen, hgt, ha, t1, j1, hne, t2, ml, just_i, t3, t4, just_n, t5, j2, r1, r2]
      refine for_nx (fun i g => ∃ o10 o11, g = [.fro (.tuple (prs (blk size move ps))), .fro (.int w), .fro (.list (iD (hrsP ps))), .fro (.int size), .fro (.int move), .fro (.tuple (prs (blk size move (lstP ps)))), .fro (.tuple (prs (blk size move (holesP (lstP ps))))), .fro .none, .fro .none, .fro (.tuple ((blk size move ps).map f)), opn o10, opn o11]) ⟨none, none, rfl⟩ ?_ ?_
      · rintro i d g hi ⟨o10, o11, rfl⟩
        obtain ⟨rfl, hlt⟩ := rngL_at hi
        have hlt : i < 42 := hlt
        have mi : mulOk (-22 + (i : Int)) size = true := hs.mul (by omega) (by omega)
        simp_arith [hin, ha, mi, t6, t7, just_b]
        exact ⟨some _, some _, rfl⟩
      · rintro g ⟨o10, o11, rfl⟩
        simp_arith []
        exact ⟨_, rfl, rfl⟩
    · obtain ⟨f, hf, ha⟩ := as_odd (ps := blk size move ps) hl cw
      have T := told_of (move := move) h hs (Lot.l hf (blk size move ps))
      have hne := neD_self (ent_shp hf (blk size move ps)).2
      have t1 := T.least
      have t2 := T.count
      have t3 := T.first
      have t4 := T.last
      have t5 := T.holes
      have t6 := T.lo
      have t7 := T.hi
      rw [ehd] at t3
      rw [eld] at t4
      simp_arith [d__law_alone, q1, q2, q3, q4, hlen, hgt, ha, t1, j1, hne, t2, ml, just_i, t3, t4, just_n, t5, j2, r1, r2]
      refine for_nx (fun i g => ∃ o10 o11, g = [.fro (.tuple (prs (blk size move ps))), .fro (.int w), .fro (.list (iD (hrsP ps))), .fro (.int size), .fro (.int move), .fro (.tuple (prs (blk size move (lstP ps)))), .fro (.tuple (prs (blk size move (holesP (lstP ps))))), .fro .none, .fro .none, .fro (.list ((blk size move ps).map f)), opn o10, opn o11]) ⟨none, none, rfl⟩ ?_ ?_
      · rintro i d g hi ⟨o10, o11, rfl⟩
        obtain ⟨rfl, hlt⟩ := rngL_at hi
        have hlt : i < 42 := hlt
        have mi : mulOk (-22 + (i : Int)) size = true := hs.mul (by omega) (by omega)
        simp_arith [hin, ha, mi, t6, t7, just_b]
        exact ⟨some _, some _, rfl⟩
      · rintro g ⟨o10, o11, rfl⟩
        simp_arith []
        exact ⟨_, rfl, rfl⟩
  | cons a r =>
    obtain ⟨b, hlast⟩ : ∃ b, (a :: r).getLast? = some b := ⟨_, List.getLast?_eq_some_getLast (by simp)⟩
    obtain ⟨p, L, el, rfl⟩ := first_is e
    obtain ⟨q, L', el2, rfl⟩ := last_is (ps := ps) (b := b) (by rw [e]; exact hlast)
    have a0 := head_iD e
    have aL := getLast_iD (ns := hrsP ps) (by rw [e]; exact hlast)
    have za := h.zb (z := p.1) (by rw [e]; exact List.mem_cons_self ..)
    have zb := h.zb (z := q.2) (by rw [e]; exact List.mem_of_getLast? hlast)
    have hgt : decide (0 < ((hrsP ps).length : Int)) = true := decide_eq_true (by rw [e, List.length_cons]; omega)
    have ehd : headD (blk size move (lstP ps)) = .int (p.1 * size + move) := by rw [el]; rfl
    have eld : lastD (blk size move (lstP ps)) = .int (q.2 * size + size - 1 + move) := by
      rw [el2, blk_app]
      show lastD (blk size move L' ++ [(q.1 * size + move, q.2 * size + size - 1 + move)]) = _
      unfold lastD
      rw [List.getLast?_concat]
    have ma : mulOk p.1 size = true := hs.mul (by omega) (by omega)
    have mb : mulOk q.2 size = true := hs.mul (by omega) (by omega)
    rw [← e] at hlast ⊢
    rcases (by omega : (w = 0 ∨ w = 2) ∨ (w = 1 ∨ w = 3)) with cw | cw
    · obtain ⟨f, hf, ha⟩ := as_even (ps := blk size move ps) hl cw
      have T := told_of (move := move) h hs (Lot.t hf (blk size move ps))
      have hne := neD_self (ent_shp hf (blk size move ps)).1
      have t1 := T.least
      have t2 := T.count
      have t3 := T.first
      have t4 := T.last
      have t5 := T.holes
      have t6 := T.lo
      have t7 := T.hi
      rw [ehd] at t3
      rw [eld] at t4
      simp_arith [d__law_alone, q1, q2, q3, q4, hlen, hgt, a0, aL, ma, mb, ha, t1, j1, hne, t2, ml, just_i, t3, t4, t5, j2, r1, r2]
      refine for_nx (fun i g => ∃ o10 o11, g = [.fro (.tuple (prs (blk size move ps))), .fro (.int w), .fro (.list (iD (hrsP ps))), .fro (.int size), .fro (.int move), .fro (.tuple (prs (blk size move (lstP ps)))), .fro (.tuple (prs (blk size move (holesP (lstP ps))))), .fro (.int (p.1 * size + move)), .fro (.int (q.2 * size + size - 1 + move)), .fro (.tuple ((blk size move ps).map f)), opn o10, opn o11]) ⟨none, none, rfl⟩ ?_ ?_
      · rintro i d g hi ⟨o10, o11, rfl⟩
        obtain ⟨rfl, hlt⟩ := rngL_at hi
        have hlt : i < 42 := hlt
        have mi : mulOk (-22 + (i : Int)) size = true := hs.mul (by omega) (by omega)
        simp_arith [hin, ha, mi, t6, t7, just_b]
        exact ⟨some _, some _, rfl⟩
      · rintro g ⟨o10, o11, rfl⟩
        simp_arith []
        exact ⟨_, rfl, rfl⟩
    · obtain ⟨f, hf, ha⟩ := as_odd (ps := blk size move ps) hl cw
      have T := told_of (move := move) h hs (Lot.l hf (blk size move ps))
      have hne := neD_self (ent_shp hf (blk size move ps)).2
      have t1 := T.least
      have t2 := T.count
      have t3 := T.first
      have t4 := T.last
      have t5 := T.holes
      have t6 := T.lo
      have t7 := T.hi
      rw [ehd] at t3
      rw [eld] at t4
      simp_arith [d__law_alone, q1, q2, q3, q4, hlen, hgt, a0, aL, ma, mb, ha, t1, j1, hne, t2, ml, just_i, t3, t4, t5, j2, r1, r2]
      refine for_nx (fun i g => ∃ o10 o11, g = [.fro (.tuple (prs (blk size move ps))), .fro (.int w), .fro (.list (iD (hrsP ps))), .fro (.int size), .fro (.int move), .fro (.tuple (prs (blk size move (lstP ps)))), .fro (.tuple (prs (blk size move (holesP (lstP ps))))), .fro (.int (p.1 * size + move)), .fro (.int (q.2 * size + size - 1 + move)), .fro (.list ((blk size move ps).map f)), opn o10, opn o11]) ⟨none, none, rfl⟩ ?_ ?_
      · rintro i d g hi ⟨o10, o11, rfl⟩
        obtain ⟨rfl, hlt⟩ := rngL_at hi
        have hlt : i < 42 := hlt
        have mi : mulOk (-22 + (i : Int)) size = true := hs.mul (by omega) (by omega)
        simp_arith [hin, ha, mi, t6, t7, just_b]
        exact ⟨some _, some _, rfl⟩
      · rintro g ⟨o10, o11, rfl⟩
        simp_arith []
        exact ⟨_, rfl, rfl⟩
end G00
namespace G00
open PySem L2 Mw
/-! # two lots -/
theorem meet_in {ns ms : List Int} {x0 x1 x2 x5 x6 x7 : Sl} {Q : List D → List Sl → Prop} (hl : ns.length ≤ 100000) (q : Q (iD (ns.filter fun z => decide (z ∈ ms))) [x0, x1, x2, .fro (.list (iD ns)), .fro (.list (iD ms)), x5, x6, x7, .un, .un]) :
    Post Q (fun _ _ _ _ => False) (lcL [9] (.one 9) (tstE (op2 (inD false) (vr 9) (vr 4))) (vr 9) [] (iD ns) [x0, x1, x2, .fro (.list (iD ns)), .fro (.list (iD ms)), x5, x6, x7, .un, .un]) := by
  refine lc_wp (fun i acc g => g = [x0, x1, x2, .fro (.list (iD ns)), .fro (.list (iD ms)), x5, x6, x7, .un, .un] ∧ acc = iD ((ns.take i).filter fun z => decide (z ∈ ms))) ⟨rfl, rfl⟩ ?_ ?_
  · rintro i d acc g hi ⟨rfl, rfl⟩
    unfold iD at hi
    rw [List.getElem?_map] at hi
    cases e : ns[i]? with
    | none => rw [e] at hi; cases hi
    | some z =>
      rw [e] at hi
      obtain rfl := Option.some.inj hi
      have hin : inD false (.int z) (.list (iD ms)) = _ := inD_f z ms
      have hs : (iD ((ns.take i).filter fun z => decide (z ∈ ms))).length < SZ := lt_SZ (by
        rw [iD_len]
        have := List.length_filter_le (fun z => decide (z ∈ ms)) (ns.take i)
        rw [List.length_take] at this; omega)
      have et : ns.take (i + 1) = ns.take i ++ [z] := by rw [List.take_add_one, e]; rfl
      have ef : iD ((ns.take (i + 1)).filter fun z => decide (z ∈ ms)) = iD ((ns.take i).filter fun z => decide (z ∈ ms)) ++ iD ([z].filter fun z => decide (z ∈ ms)) := by rw [et, List.filter_append, iD_app]
      by_cases c : z ∈ ms
      · rw [decide_eq_true c] at hin
        simp_arith [hin, hs]
        refine ⟨trivial, trivial, ?_⟩
        rw [ef, List.filter_cons, decide_eq_true c]; rfl
      · rw [decide_eq_false c] at hin
        simp_arith [hin]
        refine ⟨trivial, ?_⟩
        rw [ef, List.filter_cons, decide_eq_false c]
        exact (List.append_nil _).symm
  · rintro acc g ⟨rfl, rfl⟩
    rw [iD_len, List.take_length]
    exact q
def bothH (ps qs : List (Int × Int)) : List Int := hrsP ps ++ hrsP qs
def sameH (ps qs : List (Int × Int)) : List Int := (hrsP ps).filter fun z => decide (z ∈ hrsP qs)
theorem both_in {ps qs : List (Int × Int)} {z : Int} : z ∈ bothH ps qs ↔ InP ps z ∨ InP qs z := by
  unfold bothH
  rw [List.mem_append, hrsP_in, hrsP_in]
theorem same_in {ps qs : List (Int × Int)} {z : Int} : z ∈ sameH ps qs ↔ InP ps z ∧ InP qs z := by
  unfold sameH
  rw [List.mem_filter, hrsP_in]
  constructor
  · rintro ⟨h1, h2⟩
    exact ⟨h1, hrsP_in.mp (of_decide_eq_true h2)⟩
  · rintro ⟨h1, h2⟩
    exact ⟨h1, decide_eq_true (hrsP_in.mpr h2)⟩
theorem few_z {ns : List Int} (h : ∀ z ∈ ns, -20 ≤ z ∧ z ≤ 17) : (sdd ns).length ≤ 38 := sdd_few (a := -20) (n := 38) fun z hz => by have := h z hz; omega
theorem bnd_z {ns : List Int} (h : ∀ z ∈ ns, -20 ≤ z ∧ z ≤ 17) : Bnd (leastP (sdd ns)) := sep_bnd (leastP_spec ns).1.2 fun z hz => by
  have := h z (((leastP_spec ns).2 z).mp hz)
  omega
theorem union_is {size move : Int} {ps qs : List (Int × Int)} (hs : Siz size) (h : Drw ps) (h' : Drw qs) : joinP (blk size move ps ++ blk size move qs) = blk size move (leastP (sdd (bothH ps qs))) := by
  rw [← blk_app]
  refine least_join hs.lo (fun p hp => ?_) fun z => ?_
  · rcases List.mem_append.mp hp with hp | hp
    · exact h.ok p hp
    · exact h'.ok p hp
  · rw [both_in, InP_app]
theorem union_is' {size move : Int} {ps qs : List (Int × Int)} (hs : Siz size) (h : Drw ps) (h' : Drw qs) : joinP (blk size move qs ++ blk size move ps) = blk size move (leastP (sdd (bothH ps qs))) := by
  rw [← blk_app]
  refine least_join hs.lo (fun p hp => ?_) fun z => ?_
  · rcases List.mem_append.mp hp with hp | hp
    · exact h'.ok p hp
    · exact h.ok p hp
  · rw [both_in, InP_app, or_comm]
theorem meet_is {size move : Int} {ps qs : List (Int × Int)} (hs : Siz size) (h : Drw ps) (h' : Drw qs) : meetP ((joinP (blk size move ps)).length + (joinP (blk size move qs)).length) (joinP (blk size move ps)) (joinP (blk size move qs)) = blk size move (leastP (sdd (sameH ps qs))) := by
  rw [join_is hs.lo h.ok, join_is hs.lo h'.ok]
  obtain ⟨m1, m2⟩ := meetP_spec _ _ _ (Nat.le_refl _) (blk_sep (move := move) hs.lo (lstP_sep ps)) (blk_sep (move := move) hs.lo (lstP_sep qs))
  refine sep_unique m1 (blk_sep hs.lo (leastP_spec _).1) fun z => ?_
  rw [m2 z, in_blk hs.lo, in_blk hs.lo, in_blk hs.lo, lstP_in, lstP_in, (leastP_spec _).2, same_in]
theorem meet_is' {size move : Int} {ps qs : List (Int × Int)} (hs : Siz size) (h : Drw ps) (h' : Drw qs) : meetP ((joinP (blk size move qs)).length + (joinP (blk size move ps)).length) (joinP (blk size move qs)) (joinP (blk size move ps)) = blk size move (leastP (sdd (sameH ps qs))) := by
  rw [join_is hs.lo h.ok, join_is hs.lo h'.ok]
  obtain ⟨m1, m2⟩ := meetP_spec _ _ _ (Nat.le_refl _) (blk_sep (move := move) hs.lo (lstP_sep qs)) (blk_sep (move := move) hs.lo (lstP_sep ps))
  refine sep_unique m1 (blk_sep hs.lo (leastP_spec _).1) fun z => ?_
  rw [m2 z, in_blk hs.lo, in_blk hs.lo, in_blk hs.lo, lstP_in, lstP_in, (leastP_spec _).2, same_in, and_comm]
theorem pair_ok {ps qs : List (Int × Int)} {size move w : Int} (h : Drw ps) (h' : Drw qs) (hs : Siz size) (h0 : 0 ≤ w) (h3 : w ≤ 3) :
    F__law_pair [.fro (.tuple (prs (blk size move ps))), .fro (.tuple (prs (blk size move qs))), .fro (.int w), .fro (.list (iD (hrsP ps))), .fro (.list (iD (hrsP qs))), .fro (.int size), .fro (.int move)] = .ok (.fro (.bool true)) none := by
  have hl : (blk size move ps).length ≤ 10000 := by rw [blk_len]; have := h.len; omega
  have hl' : (blk size move qs).length ≤ 10000 := by rw [blk_len]; have := h'.len; omega
  have hfew := h.few
  have hfew' := h'.few
  have ho := blk_ok (move := move) hs.lo h.ok
  have ho' := blk_ok (move := move) hs.lo h'.ok
  have zb : ∀ z ∈ bothH ps qs, -20 ≤ z ∧ z ≤ 17 := fun z hz => by
    rcases both_in.mp hz with hz | hz
    · exact h.zb (hrsP_in.mpr hz)
    · exact h'.zb (hrsP_in.mpr hz)
  have zs : ∀ z ∈ sameH ps qs, -20 ≤ z ∧ z ≤ 17 := fun z hz => h.zb (hrsP_in.mpr (same_in.mp hz).1)
  have fb := few_z zb
  have fs := few_z zs
  have q1 := least_ok (ns := bothH ps qs) (by omega)
  have q2 := blocks_ok (move := move) (bnd_z zb) (by have := leastP_len (sdd (bothH ps qs)); omega) hs.lo hs.bb
  have q3 := least_ok (ns := sameH ps qs) (by omega)
  have q4 := blocks_ok (move := move) (bnd_z zs) (by have := leastP_len (sdd (sameH ps qs)); omega) hs.lo hs.bb
  have j1 := told_prs (l := blk size move (leastP (sdd (bothH ps qs)))) (by rw [blk_len]; have := leastP_len (sdd (bothH ps qs)); omega)
  have j2 := told_prs (l := blk size move (leastP (sdd (sameH ps qs)))) (by rw [blk_len]; have := leastP_len (sdd (sameH ps qs)); omega)
  have ha : addD (.list (iD (hrsP ps))) (.list (iD (hrsP qs))) = some (.lstN (iD (bothH ps qs))) := by
    unfold bothH
    rw [iD_app]
    exact addL (by rw [iD_len, iD_len]; omega)
  refine fd_post (R := fun r => r = .ok (.fro (.bool true)) none) rfl ?_
  rcases (by omega : (w = 0 ∨ w = 2) ∨ (w = 1 ∨ w = 3)) with cw | cw
  · obtain ⟨f1, hf1, a1⟩ := as_even (ps := blk size move ps) (w := w) (by omega) cw
    obtain ⟨f2, hf2, a2⟩ := as_even (ps := blk size move qs) (w := w) (by omega) cw
    obtain ⟨f3, hf3, a3⟩ := as_odd (ps := blk size move qs) (w := 3 - w) (by omega) (by omega)
    have u1 := union_ok (Lot.t hf1 (blk size move ps)) ho hl (Lot.l hf3 (blk size move qs)) ho' hl'
    have u2 := union_ok (Lot.t hf2 (blk size move qs)) ho' hl' (Lot.t hf1 (blk size move ps)) ho hl
    have u3 := meet_ok (Lot.t hf1 (blk size move ps)) ho hl (Lot.t hf2 (blk size move qs)) ho' hl'
    have u4 := meet_ok (Lot.l hf3 (blk size move qs)) ho' hl' (Lot.t hf1 (blk size move ps)) ho hl
    rw [union_is hs h h'] at u1
    rw [union_is' hs h h'] at u2
    rw [meet_is hs h h'] at u3
    rw [meet_is' hs h h'] at u4
    simp_arith [d__law_pair, ha, q1, q2]
    refine meet_in (by omega) ?_
    have es : (hrsP ps).filter (fun z => decide (z ∈ hrsP qs)) = sameH ps qs := rfl
    rw [es]
    simp_arith [q3, q4, a1, a2, a3, u1, u2, u3, u4, j1, j2]
    exact ⟨_, rfl, rfl⟩
  · obtain ⟨f1, hf1, a1⟩ := as_odd (ps := blk size move ps) (w := w) (by omega) cw
    obtain ⟨f2, hf2, a2⟩ := as_odd (ps := blk size move qs) (w := w) (by omega) cw
    obtain ⟨f3, hf3, a3⟩ := as_even (ps := blk size move qs) (w := 3 - w) (by omega) (by omega)
    have u1 := union_ok (Lot.l hf1 (blk size move ps)) ho hl (Lot.t hf3 (blk size move qs)) ho' hl'
    have u2 := union_ok (Lot.l hf2 (blk size move qs)) ho' hl' (Lot.l hf1 (blk size move ps)) ho hl
    have u3 := meet_ok (Lot.l hf1 (blk size move ps)) ho hl (Lot.l hf2 (blk size move qs)) ho' hl'
    have u4 := meet_ok (Lot.t hf3 (blk size move qs)) ho' hl' (Lot.l hf1 (blk size move ps)) ho hl
    rw [union_is hs h h'] at u1
    rw [union_is' hs h h'] at u2
    rw [meet_is hs h h'] at u3
    rw [meet_is' hs h h'] at u4
    simp_arith [d__law_pair, ha, q1, q2]
    refine meet_in (by omega) ?_
    have es : (hrsP ps).filter (fun z => decide (z ∈ hrsP qs)) = sameH ps qs := rfl
    rw [es]
    simp_arith [q3, q4, a1, a2, a3, u1, u2, u3, u4, j1, j2]
    exact ⟨_, rfl, rfl⟩
/-! # what is drawn -/
theorem lot_ok {T : List D} (hT : Tape T) : ∃ ps T', F__law_lot [.bor T, .fro (.int 4), .fro (.int 12)] = .ok (.fro (.tuple (prs ps))) (some T') ∧ Tape T' ∧ ps.length ≤ 4 ∧ ∀ p ∈ ps, -20 ≤ p.1 ∧ p.1 ≤ p.2 ∧ p.2 ≤ 17 := by
  obtain ⟨n, T1, e1, n0, n1, hT1⟩ := ltake (m := 4) (by decide) hT
  have h0s : 0 ≤ SZ := Nat.zero_le _
  have h2s : 2 ≤ SZ := by decide
  have h3s : 3 ≤ SZ := by decide
  have h5s : 5 ≤ SZ := by decide
  have hr : rOk (1 + n) = true := rOk_le (by omega) (by omega)
  have hlr : (rngL 0 (1 + n).toNat).length = (1 + n).toNat := rngL_len ..
  refine fd_post (R := fun r => ∃ ps T', r = .ok (.fro (.tuple (prs ps))) (some T') ∧ Tape T' ∧ ps.length ≤ 4 ∧ ∀ p ∈ ps, -20 ≤ p.1 ∧ p.1 ≤ p.2 ∧ p.2 ≤ 17) rfl ?_
  simp_arith [d__law_lot, h0s, e1, hr]
  refine for_nx (fun i g => ∃ T' ps o4 o5, g = [.bor T', .fro (.int 4), .fro (.int 12), .own (prs ps), opn o4, opn o5] ∧ Tape T' ∧ ps.length = i ∧ ∀ p ∈ ps, -20 ≤ p.1 ∧ p.1 ≤ p.2 ∧ p.2 ≤ 17) ⟨T1, [], none, none, rfl, hT1, rfl, fun _ h => nomatch h⟩ ?_ ?_
  · rintro i d g hi ⟨T', ps, o4, o5, rfl, hT', hl, hb⟩
    obtain ⟨rfl, hlt⟩ := rngL_at hi
    have hlt : i < (1 + n).toNat := hlt
    obtain ⟨x, T2, e2, x0, x1, hT2⟩ := ltake (m := 12) (by decide) hT'
    obtain ⟨r3, T3, e3, r30, r31, hT3⟩ := ltake (m := 3) (by decide) hT2
    obtain ⟨k, hk, km⟩ := pickI (L := [0, 0, 20]) r30 r31
    have hk2 : atI [PyData.int 0, .int 0, .int 20] r3 = some (.int k) := hk
    have kb : 0 ≤ k ∧ k ≤ 20 := by
      simp only [List.mem_cons, List.not_mem_nil, or_false] at km
      omega
    obtain ⟨r4, T4, e4, r40, r41, hT4⟩ := ltake (m := 5) (by decide) hT3
    obtain ⟨j, hj, jm⟩ := pickI (L := [0, 1, 3, 2, 6]) r40 r41
    have hj2 : atI [PyData.int 0, .int 1, .int 3, .int 2, .int 6] r4 = some (.int j) := hj
    have jb : 0 ≤ j ∧ j ≤ 6 := by
      simp only [List.mem_cons, List.not_mem_nil, or_false] at jm
      omega
    have hs : (prs ps).length < SZ := lt_SZ (by rw [prs_len]; omega)
    simp_arith [e2, e3, hk2, h3s, e4, hj2, h5s, h2s, hs]
    refine ⟨T4, ps ++ [(x - k, x - k + j)], some _, some _, by rw [prs_app]; rfl, hT4, by rw [List.length_append, hl]; rfl, fun p hp => ?_⟩
    rcases List.mem_append.mp hp with hp | hp
    · exact hb p hp
    · rw [List.mem_singleton.mp hp]
      refine ⟨?_, ?_, ?_⟩
      · show -20 ≤ x - k; omega
      · show x - k ≤ x - k + j; omega
      · show x - k + j ≤ 17; omega
  · rintro g ⟨T', ps, o4, o5, rfl, hT', hl, hb⟩
    rw [hlr] at hl
    simp_arith []
    exact ⟨_, rfl, ps, T', rfl, hT', by omega, hb⟩
theorem slF_1 (ps : List (Int × Int)) : slF none (some 1) (.tuple (prs ps)) = some (.tupN (prs (ps.take 1))) := by
  show some (Out.tupN (cutL _ _ _)) = _
  unfold cutL
  rw [show (1 : Int) = ((1 : Nat) : Int) from rfl, HT.sIx_nat, HT.sIx_none, List.drop_zero, Nat.sub_zero]
  cases ps with
  | nil => rfl
  | cons p ps =>
    rw [Nat.min_eq_left (by rw [prs_len, List.length_cons]; omega)]
    rfl
theorem drawn_ok {T : List D} (hT : Tape T) : ∃ ps T', F__law_drawn [.bor T] = .ok (.fro (.tuple (prs ps))) (some T') ∧ Tape T' ∧ Drw ps := by
  obtain ⟨ps, T1, e1, hT1, hl, hb⟩ := lot_ok hT
  obtain ⟨n, T2, e2, n0, n1, hT2⟩ := ltake (m := 6) (by decide) hT1
  have h0s : 0 ≤ SZ := Nat.zero_le _
  by_cases c1 : n = 1
  · have d1 : decide (n = 1) = true := decide_eq_true c1
    refine fd_post (R := fun r => ∃ ps T', r = .ok (.fro (.tuple (prs ps))) (some T') ∧ Tape T' ∧ Drw ps) rfl ?_
    simp_arith [d__law_drawn, e1, e2, d1, h0s]
    exact ⟨_, rfl, [], T2, rfl, hT2, by simp, fun _ h => nomatch h⟩
  · have d1 : decide (n = 1) = false := decide_eq_false c1
    by_cases c2 : n = 2
    · have d2 : decide (n = 2) = true := decide_eq_true c2
      have sl : slF none (some 1) (.tuple (prs ps)) = some (.tupN (prs (ps.take 1))) := slF_1 ps
      have ha := addT (xs := prs ps) (ys := prs (ps.take 1)) (by rw [prs_len, prs_len, List.length_take]; omega)
      refine fd_post (R := fun r => ∃ ps T', r = .ok (.fro (.tuple (prs ps))) (some T') ∧ Tape T' ∧ Drw ps) rfl ?_
      simp_arith [d__law_drawn, e1, e2, d1, d2, sl, ha]
      refine ⟨_, rfl, ps ++ ps.take 1, T2, by rw [prs_app], hT2, by rw [List.length_append, List.length_take]; omega, fun p hp => ?_⟩
      rcases List.mem_append.mp hp with hp | hp
      · exact hb p hp
      · exact hb p (List.mem_of_mem_take hp)
    · have d2 : decide (n = 2) = false := decide_eq_false c2
      refine fd_post (R := fun r => ∃ ps T', r = .ok (.fro (.tuple (prs ps))) (some T') ∧ Tape T' ∧ Drw ps) rfl ?_
      simp_arith [d__law_drawn, e1, e2, d1, d2]
      exact ⟨_, rfl, ps, T2, rfl, hT2, by omega, hb⟩
theorem edge_ok {T : List D} {size move : Int} (hs : Siz size) (hT : Tape T) : ∃ o T', F__law_edge [.bor T, .fro (.int size), .fro (.int move)] = .ok (.fro (opD o)) (some T') ∧ Tape T' := by
  obtain ⟨x, T1, e1, x0, x1, hT1⟩ := ltake (m := 45) (by decide) hT
  obtain ⟨r, T2, e2, r0, r1, hT2⟩ := ltake (m := 3) (by decide) hT1
  obtain ⟨k, hk, km⟩ := pickI (L := [0, 1, size / 2]) r0 r1
  have hk2 : atI [PyData.int 0, .int 1, .int (size / 2)] r = some (.int k) := hk
  obtain ⟨n, T3, e3, n0, n1, hT3⟩ := ltake (m := 3) (by decide) hT2
  have dv : divOk 2 = true := by decide
  have m1 : mulOk (x - 23) size = true := hs.mul (by omega) (by omega)
  have h3s : 3 ≤ SZ := by decide
  refine fd_post (R := fun r => ∃ o T', r = .ok (.fro (opD o)) (some T') ∧ Tape T') rfl ?_
  by_cases c : n = 1
  · have d1 : decide (n = 1) = true := decide_eq_true c
    simp_arith [d__law_edge, e1, e2, hk2, e3, dv, m1, h3s, d1]
    exact ⟨_, rfl, none, T3, rfl, hT3⟩
  · have d1 : decide (n = 1) = false := decide_eq_false c
    simp_arith [d__law_edge, e1, e2, hk2, e3, dv, m1, h3s, d1]
    exact ⟨_, rfl, some _, T3, rfl, hT3⟩
theorem pow27 : powD (.int 10) (.int 27) = some (.val (.int 1000000000000000000000000000)) := rfl
theorem pow29 : powD (.int 10) (.int 29) = some (.val (.int 100000000000000000000000000000)) := rfl
end G00
namespace G00
open PySem L2 Mw
theorem bnd_lst {ps : List (Int × Int)} (h : Drw ps) : Bnd (lstP ps) ∧ (lstP ps).length ≤ 38 := ⟨h.lst, by have := lstP_len ps; have := h.few; omega⟩
theorem addP_in2 {b : Int} {L : List (Int × Int)} {pre : List Sl} {Q : List D → List Sl → Prop} (hpre : pre.length = 16) (h6 : pre[6]? = some (.fro (.int b))) (hl : L.length ≤ 100000) (q : Q (prs (addP b L)) (pre ++ [.un])) :
    Post Q (fun _ _ _ _ => False) (lcL [16] (.one 16) (ret true) (tupE (argsCons (op2 addD (op2 ixD (vr 16) (cst (.int 0))) (vr 6)) (argsCons (op2 addD (op2 ixD (vr 16) (cst (.int 1))) (vr 6)) argsNil))) [] (prs L) (pre ++ [.un])) := by
  obtain ⟨a0, a1, a2, a3, a4, a5, a6, a7, a8, a9, a10, a11, a12, a13, a14, a15, rfl⟩ : ∃ a0 a1 a2 a3 a4 a5 a6 a7 a8 a9 a10 a11 a12 a13 a14 a15, pre = [a0, a1, a2, a3, a4, a5, a6, a7, a8, a9, a10, a11, a12, a13, a14, a15] := by
    rcases pre with _ | ⟨a0, _ | ⟨a1, _ | ⟨a2, _ | ⟨a3, _ | ⟨a4, _ | ⟨a5, _ | ⟨a6, _ | ⟨a7, _ | ⟨a8, _ | ⟨a9, _ | ⟨a10, _ | ⟨a11, _ | ⟨a12, _ | ⟨a13, _ | ⟨a14, _ | ⟨a15, _ | ⟨a16, r⟩⟩⟩⟩⟩⟩⟩⟩⟩⟩⟩⟩⟩⟩⟩⟩⟩ <;> simp at hpre
    exact ⟨a0, a1, a2, a3, a4, a5, a6, a7, a8, a9, a10, a11, a12, a13, a14, a15, rfl⟩
  obtain rfl : a6 = .fro (.int b) := by simpa using h6
  have h2s : 2 ≤ SZ := by decide
  refine lc_wp (fun i acc g => g = [a0, a1, a2, a3, a4, a5, .fro (.int b), a7, a8, a9, a10, a11, a12, a13, a14, a15, .un] ∧ acc = prs (addP b (L.take i))) ⟨rfl, rfl⟩ ?_ ?_
  · rintro i d acc g hi ⟨rfl, rfl⟩
    obtain ⟨p, hp, rfl⟩ := prs_get hi
    have hs : (prs (addP b (L.take i))).length < SZ := lt_SZ (by rw [prs_len, addP_len, List.length_take]; omega)
    simp_arith [prQ, atp0, atp1, h2s, hs]
    exact ⟨trivial, trivial, (addP_take b L hp).symm⟩
  · rintro acc g ⟨rfl, rfl⟩
    rw [prs_len, List.take_length]
    exact q
theorem law_true : ∀ ns : List Int, ns.length ≤ 63 → F_law [.scr ns] = .ok (.fro (.bool true)) none := by
  intro ns hns
  obtain ⟨T0, e0, hT0⟩ := tape_ok ns
  rw [← e_tape] at e0
  obtain ⟨ps, T1, e1, hT1, hps⟩ := drawn_ok hT0
  obtain ⟨qs, T2, e2, hT2, hqs⟩ := drawn_ok hT1
  obtain ⟨r4, T4, e4, r40, r41, hT4⟩ := ltake (m := 4) (by decide) hT2
  obtain ⟨size, hsize, sizem⟩ := pickI (L := [1, 1, 7, 1000000000000000000000000000]) r40 r41
  have hsize2 : atI [PyData.int 1, .int 1, .int 7, .int 1000000000000000000000000000] r4 = some (.int size) := hsize
  have hsz : Siz size := by
    simp only [List.mem_cons, List.not_mem_nil, or_false] at sizem
    constructor <;> omega
  obtain ⟨r5, T5, e5, r50, r51, hT5⟩ := ltake (m := 3) (by decide) hT4
  obtain ⟨move, hmove, movem⟩ := pickI (L := [0, -40, 100000000000000000000000000000]) r50 r51
  have hmove2 : atI [PyData.int 0, .int (-40), .int 100000000000000000000000000000] r5 = some (.int move) := hmove
  obtain ⟨r6, T6, e6, r60, r61, hT6⟩ := ltake (m := 4) (by decide) hT5
  obtain ⟨by_, hby, bym⟩ := pickI (L := [3, -8, 0, 100000000000000000000000000000]) r60 r61
  have hby2 : atI [PyData.int 3, .int (-8), .int 0, .int 100000000000000000000000000000] r6 = some (.int by_) := hby
  obtain ⟨w, T7, e7, w0, w3, hT7⟩ := ltake (m := 4) (by decide) hT6
  have h3s : 3 ≤ SZ := by decide
  have h4s : 4 ≤ SZ := by decide
  have hr : rOk 4 = true := by decide
  have o1 : F__law_hours [.fro (.tuple (prs ps))] = .ok (.own (iD (hrsP ps))) none := hours_ok hps
  have o2 : F__law_hours [.fro (.tuple (prs qs))] = .ok (.own (iD (hrsP qs))) none := hours_ok hqs
  have lp := hps.len
  have lq := hqs.len
  have b1 := blocks_ok (move := move) hps.bd (by omega) hsz.lo hsz.bb
  have b2 := blocks_ok (move := move) hqs.bd (by omega) hsz.lo hsz.bb
  have al1 := alone_ok (move := move) (w := w) hps hsz w0 (by omega)
  have al2 := alone_ok (move := move) (w := 3 - w) hqs hsz (by omega) (by omega)
  have pr := pair_ok (move := move) (w := w) hps hqs hsz w0 (by omega)
  have ens : sdd (hrsP ps) = hrsP ps := sdd_sdd _
  have ls := least_ok (ns := hrsP ps) (by rw [ens]; have := hps.few; omega)
  rw [ens] at ls
  have e1' : leastP (hrsP ps) = lstP ps := rfl
  rw [e1'] at ls
  obtain ⟨lb, ll⟩ := bnd_lst hps
  have b3 := blocks_ok (move := move) lb (by omega) hsz.lo hsz.bb
  have ho := blk_ok (move := move) hsz.lo hps.ok
  have hbl : (blk size move ps).length ≤ 10 := by rw [blk_len]; exact lp
  have hbs := blk_sep (move := move) hsz.lo (lstP_sep ps)
  have hbi : ∀ z, InP (blk size move ps) z ↔ InP (blk size move (lstP ps)) z := fun z => by rw [in_blk hsz.lo, in_blk hsz.lo, lstP_in]
  have j1 := told_prs (l := addP by_ (blk size move (lstP ps))) (by rw [addP_len, blk_len]; omega)
  refine fd_post (R := fun r => r = .ok (.fro (.bool true)) none) rfl ?_
  rcases (by omega : (w = 0 ∨ w = 2) ∨ (w = 1 ∨ w = 3)) with cw | cw
  · obtain ⟨f, hf, ha⟩ := as_even (ps := blk size move ps) (w := w) (by omega) cw
    have hsh := shift_ok (b := by_) (Lot.t hf (blk size move ps)) ho (by omega)
    rw [shift_join by_ ho hbs hbi] at hsh
    have hcut := fun f' l' => lcut_ok (f := f') (l := l') (Lot.t hf (blk size move ps)) ho (by omega)
    simp_arith [d_law, e0, e1, e2, h3s, h4s, pow27, pow29, e4, hsize2, e5, hmove2, e6, hby2, e7, o1, o2, b1, al1, b2, al2, pr, ls, b3, ha, hsh]
    refine addP_in2 (b := by_) (L := blk size move (lstP ps)) (pre := [.scr ns, .own T7, .fro (.tuple (prs ps)), .fro (.tuple (prs qs)), .fro (.int size), .fro (.int move), .fro (.int by_), .fro (.int w), .fro (.list (iD (hrsP ps))), .fro (.list (iD (hrsP qs))), .fro (.tuple (prs (blk size move ps))), .fro (.tuple (prs (blk size move (lstP ps)))), .un, .un, .un, .un]) rfl rfl (by rw [blk_len]; omega) ?_
    simp_arith [j1, hr]
    refine for_nx (fun i g => ∃ T o12 o13 o14 o15, g = [.scr ns, .own T, .fro (.tuple (prs ps)), .fro (.tuple (prs qs)), .fro (.int size), .fro (.int move), .fro (.int by_), .fro (.int w), .fro (.list (iD (hrsP ps))), .fro (.list (iD (hrsP qs))), .fro (.tuple (prs (blk size move ps))), .fro (.tuple (prs (blk size move (lstP ps)))), opn o12, opn o13, opn o14, opn o15, .un] ∧ Tape T) ⟨T7, none, none, none, none, rfl, hT7⟩ ?_ ?_
    · rintro i d g hi ⟨T, o12, o13, o14, o15, rfl, hT⟩
      obtain ⟨rfl, hlt⟩ := rngL_at hi
      obtain ⟨fo, T8, e8, hT8⟩ := edge_ok (move := move) hsz hT
      obtain ⟨lo, T9, e9, hT9⟩ := edge_ok (move := move) hsz hT8
      have hclip := clip_ok (ps := blk size move (lstP ps)) (f := fo) (l := lo) (by rw [blk_len]; omega)
      have hc := hcut fo lo
      rw [cut_join fo lo hbs hbi] at hc
      have j2 := told_prs (l := cutP fo lo (blk size move (lstP ps))) (by have := cutP_len fo lo (blk size move (lstP ps)); rw [blk_len] at this; omega)
      simp_arith [e8, e9, hclip, ha, hc, j2]
      exact ⟨T9, some _, some _, some _, some _, rfl, hT9⟩
    · rintro g ⟨T, o12, o13, o14, o15, rfl, hT⟩
      simp_arith []
      exact ⟨_, rfl, rfl⟩
  · obtain ⟨f, hf, ha⟩ := as_odd (ps := blk size move ps) (w := w) (by omega) cw
    have hsh := shift_ok (b := by_) (Lot.l hf (blk size move ps)) ho (by omega)
    rw [shift_join by_ ho hbs hbi] at hsh
    have hcut := fun f' l' => lcut_ok (f := f') (l := l') (Lot.l hf (blk size move ps)) ho (by omega)
    simp_arith [d_law, e0, e1, e2, h3s, h4s, pow27, pow29, e4, hsize2, e5, hmove2, e6, hby2, e7, o1, o2, b1, al1, b2, al2, pr, ls, b3, ha, hsh]
    refine addP_in2 (b := by_) (L := blk size move (lstP ps)) (pre := [.scr ns, .own T7, .fro (.tuple (prs ps)), .fro (.tuple (prs qs)), .fro (.int size), .fro (.int move), .fro (.int by_), .fro (.int w), .fro (.list (iD (hrsP ps))), .fro (.list (iD (hrsP qs))), .fro (.tuple (prs (blk size move ps))), .fro (.tuple (prs (blk size move (lstP ps)))), .un, .un, .un, .un]) rfl rfl (by rw [blk_len]; omega) ?_
    simp_arith [j1, hr]
    refine for_nx (fun i g => ∃ T o12 o13 o14 o15, g = [.scr ns, .own T, .fro (.tuple (prs ps)), .fro (.tuple (prs qs)), .fro (.int size), .fro (.int move), .fro (.int by_), .fro (.int w), .fro (.list (iD (hrsP ps))), .fro (.list (iD (hrsP qs))), .fro (.tuple (prs (blk size move ps))), .fro (.tuple (prs (blk size move (lstP ps)))), opn o12, opn o13, opn o14, opn o15, .un] ∧ Tape T) ⟨T7, none, none, none, none, rfl, hT7⟩ ?_ ?_
    · rintro i d g hi ⟨T, o12, o13, o14, o15, rfl, hT⟩
      obtain ⟨rfl, hlt⟩ := rngL_at hi
      obtain ⟨fo, T8, e8, hT8⟩ := edge_ok (move := move) hsz hT
      obtain ⟨lo, T9, e9, hT9⟩ := edge_ok (move := move) hsz hT8
      have hclip := clip_ok (ps := blk size move (lstP ps)) (f := fo) (l := lo) (by rw [blk_len]; omega)
      have hc := hcut fo lo
      rw [cut_join fo lo hbs hbi] at hc
      have j2 := told_prs (l := cutP fo lo (blk size move (lstP ps))) (by have := cutP_len fo lo (blk size move (lstP ps)); rw [blk_len] at this; omega)
      simp_arith [e8, e9, hclip, ha, hc, j2]
      exact ⟨T9, some _, some _, some _, some _, rfl, hT9⟩
    · rintro g ⟨T, o12, o13, o14, o15, rfl, hT⟩
      simp_arith []
      exact ⟨_, rfl, rfl⟩
end G00
open PySem PySem.W PyProof.Rows Mw
set_option maxHeartbeats 0 in
theorem PySem.Challenge.cw_lastisdone_k00_lots_hour_by_hour_holds : PySem.Challenge.rw_lastisdone_k00_lots_hour_by_hour.Holds := by
  w_on; o_law; k_head; (case hw => w_witness2)
  k_fill
  refine L2.walk_of (l := PySem.Challenge.rw_lastisdone_k00_lots_hour_by_hour) (n := 63) (k := 12) (x := "script") (CX := fun w => L2.CX PySem.Challenge.rw_lastisdone_k00_lots_hour_by_hour.prog w) (sp := fun w => G00.spLaw _) rfl (by decide) rfl ⟨rfl, by decide, by decide⟩ (fun w h Y => PySem.W.kIn_of Y) ?F (fun _ _ a ns hl _ hS => ⟨a, ns, rfl, hS, hl, fun _ => rfl⟩) (fun _ _ _ _ _ h => by obtain ⟨_, _, _, _, _, _, _, _, _, _, _, _, z⟩ := h; exact z)
  case F =>
    intro w mg fa h KX G hmg
    refine' G00.all_mk G00.law_true KX G hmg ?a_DoneError ?a_BadNumber ?a_BadHours ?e_DoneError ?e_BadNumber ?e_BadHours ?kt_1_0 ?ex_1_0 ?kt_1_1 ?ex_1_1 ?kt_1_2 ?ex_1_2 ?kt_1_3 ?ex_1_3 ?f_1_at ?f_1_limit ?f_1_line ?kt_2_0 ?ex_2_0 ?kt_2_1 ?ex_2_1 ?kt_2_2 ?ex_2_2 ?kt_2_3 ?ex_2_3 ?f_2_at ?f_2_limit ?f_2_line ?kt_3_0 ?ex_3_0 ?kt_3_1 ?ex_3_1 ?kt_3_2 ?ex_3_2 ?kt_3_3 ?ex_3_3 ?f_3_at ?f_3_limit ?f_3_line ?o_BadHours ?i_BadHours ?t_BadHours ?d_BadHours ?o_BadNumber ?i_BadNumber ?t_BadNumber ?d_BadNumber ?a__law_as ?d__law_as ?a__law_blocks ?d__law_blocks ?a__law_least_form ?d__law_least_form ?a__law_gaps ?d__law_gaps ?a__law_just ?d__law_just ?a_joined_up ?d_joined_up ?a_tupled ?d_tupled ?a_is_int ?d_is_int ?a_is_stretch ?d_is_stretch ?a_lot_fault ?d_lot_fault ?a_pairs_of ?d_pairs_of ?a_first_hour ?d_first_hour ?a_has_hour ?d_has_hour ?a_last_hour ?d_last_hour ?a_least_form ?d_least_form ?a_lot_count ?d_lot_count ?a_lot_holes ?d_lot_holes ?a__law_alone ?d__law_alone ?a__law_clip ?d__law_clip ?a__law_take ?d__law_take ?a__law_lot ?d__law_lot ?a__law_drawn ?d__law_drawn ?a__law_edge ?d__law_edge ?a__law_hours ?d__law_hours ?a_other_pairs_of ?d_other_pairs_of ?a_shared_by ?d_shared_by ?a_lot_meet ?d_lot_meet ?a_lot_union ?d_lot_union ?a__law_pair ?d__law_pair ?a__law_tape ?d__law_tape ?a_cut_to ?d_cut_to ?a_lot_cut ?d_lot_cut ?a_lot_shift ?d_lot_shift ?a_law ?d_law ?z_abs ?z_bool ?z_enumerate ?z_int ?z_isinstance ?z_len ?z_list ?z_max ?z_min ?z_range ?z_set ?z_sorted ?z_str ?z_sum ?z_tuple
    (case a_DoneError => k_is)
    (case a_BadNumber => k_is)
    (case a_BadHours => k_is)
    (case e_DoneError => exact ⟨by k_is, by k_is, by k_is, by k_is, by k_is, by k_is, by k_is, by k_is⟩)
    (case e_BadNumber => exact ⟨by k_is, by k_is, by k_is, by k_is, by k_is, by k_is, by k_is, by k_is⟩)
    (case e_BadHours => exact ⟨by k_is, by k_is, by k_is, by k_is, by k_is, by k_is, by k_is, by k_is⟩)
    (case kt_1_0 => exact kit_ne (by decide +kernel) (kc_ve (by k_is)))
    (case ex_1_0 => exact exm_of (by k_is) (kc_ve (by k_is)))
    (case kt_1_1 => exact kit_eq)
    (case ex_1_1 => exact exm_of (by k_is) (kc_ref (by k_is) (by k_is) (by first | rfl | k_is)))
    (case kt_1_2 => exact kit_ne (by decide +kernel) (kc_ref (by k_is) (by k_is) (by first | rfl | k_is)))
    (case ex_1_2 => exact exm_of (by k_is) (kc_ref (by k_is) (by k_is) (by first | rfl | k_is)))
    (case kt_1_3 => exact kit_ne (by decide +kernel) (kc_ref (by k_is) (by k_is) (by first | rfl | k_is)))
    (case ex_1_3 => exact exm_of (by k_is) (kc_ref (by k_is) (by k_is) (by first | rfl | k_is)))
    (case f_1_at => k_is)
    (case f_1_limit => k_is)
    (case f_1_line => k_is)
    (case kt_2_0 => exact kit_ne (by decide +kernel) (kc_ve (by k_is)))
    (case ex_2_0 => exact exm_of (by k_is) (kc_ve (by k_is)))
    (case kt_2_1 => exact kit_ne (by decide +kernel) (kc_ref (by k_is) (by k_is) (by first | rfl | k_is)))
    (case ex_2_1 => exact exm_of (by k_is) (kc_ref (by k_is) (by k_is) (by first | rfl | k_is)))
    (case kt_2_2 => exact kit_eq)
    (case ex_2_2 => exact exm_of (by k_is) (kc_ref (by k_is) (by k_is) (by first | rfl | k_is)))
    (case kt_2_3 => exact kit_ne (by decide +kernel) (kc_ref (by k_is) (by k_is) (by first | rfl | k_is)))
    (case ex_2_3 => exact exm_of (by k_is) (kc_ref (by k_is) (by k_is) (by first | rfl | k_is)))
    (case f_2_at => k_is)
    (case f_2_limit => k_is)
    (case f_2_line => k_is)
    (case kt_3_0 => exact kit_ne (by decide +kernel) (kc_ve (by k_is)))
    (case ex_3_0 => exact exm_of (by k_is) (kc_ve (by k_is)))
    (case kt_3_1 => exact kit_ne (by decide +kernel) (kc_ref (by k_is) (by k_is) (by first | rfl | k_is)))
    (case ex_3_1 => exact exm_of (by k_is) (kc_ref (by k_is) (by k_is) (by first | rfl | k_is)))
    (case kt_3_2 => exact kit_ne (by decide +kernel) (kc_ref (by k_is) (by k_is) (by first | rfl | k_is)))
    (case ex_3_2 => exact exm_of (by k_is) (kc_ref (by k_is) (by k_is) (by first | rfl | k_is)))
    (case kt_3_3 => exact kit_eq)
    (case ex_3_3 => exact exm_of (by k_is) (kc_ref (by k_is) (by k_is) (by first | rfl | k_is)))
    (case f_3_at => k_is)
    (case f_3_limit => k_is)
    (case f_3_line => k_is)
    (case o_BadHours => exact ⟨⟨_, _, _, _, _, _, _, _, _, _, _, _, _, _, _, by k_is, by decide +kernel⟩, by k_is, by k_is, by k_is, by k_is⟩)
    (case i_BadHours => k_is)
    (case t_BadHours => k_is)
    (case d_BadHours => exact ⟨_, _, _, _, _, _, _, _, _, by k_is, by k_is, by k_is⟩)
    (case o_BadNumber => exact ⟨⟨_, _, _, _, _, _, _, _, _, _, _, _, _, _, _, by k_is, by decide +kernel⟩, by k_is, by k_is, by k_is, by k_is⟩)
    (case i_BadNumber => k_is)
    (case t_BadNumber => k_is)
    (case d_BadNumber => exact ⟨_, _, _, _, _, _, _, _, _, by k_is, by k_is, by k_is⟩)
    (case a__law_as => k_is)
    (case d__law_as => exact ⟨_, _, _, _, _, _, _, _, _, by k_is, by k_is, by k_is⟩)
    (case a__law_blocks => k_is)
    (case d__law_blocks => exact ⟨_, _, _, _, _, _, _, _, _, by k_is, by k_is, by k_is⟩)
    (case a__law_least_form => k_is)
    (case d__law_least_form => exact ⟨_, _, _, _, _, _, _, _, _, by k_is, by k_is, by k_is⟩)
    (case a__law_gaps => k_is)
    (case d__law_gaps => exact ⟨_, _, _, _, _, _, _, _, _, by k_is, by k_is, by k_is⟩)
    (case a__law_just => k_is)
    (case d__law_just => exact ⟨_, _, _, _, _, _, _, _, _, by k_is, by k_is, by k_is⟩)
    (case a_joined_up => k_is)
    (case d_joined_up => exact ⟨_, _, _, _, _, _, _, _, _, by k_is, by k_is, by k_is⟩)
    (case a_tupled => k_is)
    (case d_tupled => exact ⟨_, _, _, _, _, _, _, _, _, by k_is, by k_is, by k_is⟩)
    (case a_is_int => k_is)
    (case d_is_int => exact ⟨_, _, _, _, _, _, _, _, _, by k_is, by k_is, by k_is⟩)
    (case a_is_stretch => k_is)
    (case d_is_stretch => exact ⟨_, _, _, _, _, _, _, _, _, by k_is, by k_is, by k_is⟩)
    (case a_lot_fault => k_is)
    (case d_lot_fault => exact ⟨_, _, _, _, _, _, _, _, _, by k_is, by k_is, by k_is⟩)
    (case a_pairs_of => k_is)
    (case d_pairs_of => exact ⟨_, _, _, _, _, _, _, _, _, by k_is, by k_is, by k_is⟩)
    (case a_first_hour => k_is)
    (case d_first_hour => exact ⟨_, _, _, _, _, _, _, _, _, by k_is, by k_is, by k_is⟩)
    (case a_has_hour => k_is)
    (case d_has_hour => exact ⟨_, _, _, _, _, _, _, _, _, by k_is, by k_is, by k_is⟩)
    (case a_last_hour => k_is)
    (case d_last_hour => exact ⟨_, _, _, _, _, _, _, _, _, by k_is, by k_is, by k_is⟩)
    (case a_least_form => k_is)
    (case d_least_form => exact ⟨_, _, _, _, _, _, _, _, _, by k_is, by k_is, by k_is⟩)
    (case a_lot_count => k_is)
    (case d_lot_count => exact ⟨_, _, _, _, _, _, _, _, _, by k_is, by k_is, by k_is⟩)
    (case a_lot_holes => k_is)
    (case d_lot_holes => exact ⟨_, _, _, _, _, _, _, _, _, by k_is, by k_is, by k_is⟩)
    (case a__law_alone => k_is)
    (case d__law_alone => exact ⟨_, _, _, _, _, _, _, _, _, by k_is, by k_is, by k_is⟩)
    (case a__law_clip => k_is)
    (case d__law_clip => exact ⟨_, _, _, _, _, _, _, _, _, by k_is, by k_is, by k_is⟩)
    (case a__law_take => k_is)
    (case d__law_take => exact ⟨_, _, _, _, _, _, _, _, _, by k_is, by k_is, by k_is⟩)
    (case a__law_lot => k_is)
    (case d__law_lot => exact ⟨_, _, _, _, _, _, _, _, _, by k_is, by k_is, by k_is⟩)
    (case a__law_drawn => k_is)
    (case d__law_drawn => exact ⟨_, _, _, _, _, _, _, _, _, by k_is, by k_is, by k_is⟩)
    (case a__law_edge => k_is)
    (case d__law_edge => exact ⟨_, _, _, _, _, _, _, _, _, by k_is, by k_is, by k_is⟩)
    (case a__law_hours => k_is)
    (case d__law_hours => exact ⟨_, _, _, _, _, _, _, _, _, by k_is, by k_is, by k_is⟩)
    (case a_other_pairs_of => k_is)
    (case d_other_pairs_of => exact ⟨_, _, _, _, _, _, _, _, _, by k_is, by k_is, by k_is⟩)
    (case a_shared_by => k_is)
    (case d_shared_by => exact ⟨_, _, _, _, _, _, _, _, _, by k_is, by k_is, by k_is⟩)
    (case a_lot_meet => k_is)
    (case d_lot_meet => exact ⟨_, _, _, _, _, _, _, _, _, by k_is, by k_is, by k_is⟩)
    (case a_lot_union => k_is)
    (case d_lot_union => exact ⟨_, _, _, _, _, _, _, _, _, by k_is, by k_is, by k_is⟩)
    (case a__law_pair => k_is)
    (case d__law_pair => exact ⟨_, _, _, _, _, _, _, _, _, by k_is, by k_is, by k_is⟩)
    (case a__law_tape => k_is)
    (case d__law_tape => exact ⟨_, _, _, _, _, _, _, _, _, by k_is, by k_is, by k_is⟩)
    (case a_cut_to => k_is)
    (case d_cut_to => exact ⟨_, _, _, _, _, _, _, _, _, by k_is, by k_is, by k_is⟩)
    (case a_lot_cut => k_is)
    (case d_lot_cut => exact ⟨_, _, _, _, _, _, _, _, _, by k_is, by k_is, by k_is⟩)
    (case a_lot_shift => k_is)
    (case d_lot_shift => exact ⟨_, _, _, _, _, _, _, _, _, by k_is, by k_is, by k_is⟩)
    (case a_law => k_is)
    (case d_law => exact ⟨_, _, _, _, _, _, _, _, _, by k_is, by k_is, by k_is⟩)
    (case z_abs => k_is)
    (case z_bool => k_is)
    (case z_enumerate => k_is)
    (case z_int => k_is)
    (case z_isinstance => k_is)
    (case z_len => k_is)
    (case z_list => k_is)
    (case z_max => k_is)
    (case z_min => k_is)
    (case z_range => k_is)
    (case z_set => k_is)
    (case z_sorted => k_is)
    (case z_str => k_is)
    (case z_sum => k_is)
    (case z_tuple => k_is)
