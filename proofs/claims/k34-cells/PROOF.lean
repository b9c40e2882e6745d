import PyProof.Rows.All
import Wide.All
import OpenK.AllK
import Wide.FinOn
import HandS.ForMost
import HandS.IsInst
import HandS.Wide
import HandS.WideBits
import HandS.Style
import HandS.Walk
import HandS.Zip
import HandS.Conv
import HandS.TupAny
import PyProof.StrBlock2
import HandS.Deep
import HandS.TupLen
import HandS.RaiseMore
import PyProof.Rows.RuleB_pow
import PyProof.Rows.ListStrD
import HandS.More
import HandS.Text
import HandS.Comp
import HandS.SortRule
import PySem.Challenge.RW_cluehunt_k34_whole_cells_left
set_option Elab.async false
set_option linter.all false
set_option maxRecDepth 100000
set_option maxHeartbeats 4000000
namespace DL
open PySem PySem.Spec PyProof.Rows L2

def Ex (H H' : Hp) : Prop := ∀ a o, H a = some o → H' a = some o
theorem Ex.refl (H : Hp) : Ex H H := fun _ _ h => h
theorem Ex.trans {H H1 H2 : Hp} (a : Ex H H1) (b : Ex H1 H2) : Ex H H2 := fun x o h => b x o (a x o h)
theorem Ex.new {H : Hp} {p : Addr} {o : HO} (h : H p = none) : Ex H (upd H p o) := fun a u e => by
  rw [upd_ne (ne_of_none e h)]
  exact e
theorem Ex.mut {H H' : Hp} {p : Addr} {o : HO} (e : Ex H H') (h : H p = none) : Ex H (upd H' p o) := fun a u ha => by
  rw [upd_ne (ne_of_none ha h)]
  exact e a u ha
theorem Ex.free {H H' : Hp} (e : Ex H H') {p : Addr} (h : H' p = none) : H p = none := by
  cases q : H p with
  | none => rfl
  | some o => rw [e p o q] at h; cases h
theorem Ex.up {H H' : Hp} {p : Addr} {o : HO} (e : Ex H H') (h : H' p = none) : Ex (upd H p o) (upd H' p o) := fun a u ha => by
  by_cases q : a = p
  · subst q
    rw [upd_same] at ha ⊢
    exact ha
  · rw [upd_ne q] at ha ⊢
    exact e a u ha
theorem Ex.up2 {H H' : Hp} {p : Addr} {o : HO} (e : Ex H H') (h : H' p = some o) : Ex (upd H p o) H' := fun a u ha => by
  by_cases q : a = p
  · subst q
    rw [upd_same] at ha
    rw [h]; exact ha
  · rw [upd_ne q] at ha
    exact e a u ha
theorem Ex.up2m {H H' : Hp} {p : Addr} {o : HO} (e : Ex H H') (h : H p = Option.none) : Ex (upd H p o) (upd H' p o) := fun a u ha => by
  by_cases q : a = p
  · subst q
    rw [upd_same] at ha ⊢
    exact ha
  · rw [upd_ne q] at ha ⊢
    exact e a u ha
theorem Ex.ne {H H' : Hp} (e : Ex H H') {p : Addr} (h : H p ≠ Option.none) : H' p ≠ Option.none := by
  cases q : H p with
  | none => exact absurd q h
  | some o => rw [e p o q]; exact fun z => nomatch z

def kD : Key → PyData
  | .inl i => .int i
  | .inr x => .str x
mutual
inductive Rp (B : Hp) : V → PyData → Prop where
  | non : Rp B .non .none
  | bl (b : Bool) : Rp B (.bl b) (.bool b)
  | int (i : Int) : Rp B (.int i) (.int i)
  | str (x : Str) : Rp B (.str x) (.str x)
  | lst {a : Addr} {vs : List V} {ds : List PyData} : B a = some (.lst vs) → RpL B vs ds → Rp B (.ref a) (.list ds)
  | tup {a : Addr} {vs : List V} {ds : List PyData} : B a = some (.tup vs) → RpL B vs ds → Rp B (.ref a) (.tuple ds)
  | dk {a : Addr} {o : Obj} {kvs : List (Key × V)} {ds : List (PyData × PyData)} : B a = some (.frz o (.dK kvs)) → RpK B kvs ds → Rp B (.ref a) (.dict ds)
  | dt {a : Addr} {o : Obj} {kvs : List (List Key × V)} {ds : List (PyData × PyData)} : B a = some (.frz o (.dT kvs)) → RpT B kvs ds → Rp B (.ref a) (.dict ds)
inductive RpL (B : Hp) : List V → List PyData → Prop where
  | nil : RpL B [] []
  | cons {v : V} {vs : List V} {d : PyData} {ds : List PyData} : Rp B v d → RpL B vs ds → RpL B (v :: vs) (d :: ds)
inductive RpK (B : Hp) : List (Key × V) → List (PyData × PyData) → Prop where
  | nil : RpK B [] []
  | cons {k : Key} {v : V} {kvs : List (Key × V)} {d : PyData} {ds : List (PyData × PyData)} : Rp B v d → RpK B kvs ds → RpK B ((k, v) :: kvs) ((kD k, d) :: ds)
inductive RpT (B : Hp) : List (List Key × V) → List (PyData × PyData) → Prop where
  | nil : RpT B [] []
  | cons {k : List Key} {v : V} {kvs : List (List Key × V)} {d : PyData} {ds : List (PyData × PyData)} : Rp B v d → RpT B kvs ds → RpT B ((k, v) :: kvs) ((.tuple (k.map kD), d) :: ds)
end
section
variable {B B' : Hp}
mutual
theorem Rp.mono (e : Ex B B') : ∀ (d : PyData) (v : V), Rp B v d → Rp B' v d
  | .none, _, h => by cases h; exact .non
  | .bool b, _, h => by cases h; exact .bl b
  | .int i, _, h => by cases h; exact .int i
  | .str x, _, h => by cases h; exact .str x
  | .list ds, _, h => by
    cases h with
    | lst h r => exact .lst (e _ _ h) (RpL.mono e ds _ r)
  | .tuple ds, _, h => by
    cases h with
    | tup h r => exact .tup (e _ _ h) (RpL.mono e ds _ r)
  | .dict ds, _, h => by
    cases h with
    | dk h r => exact .dk (e _ _ h) (RpK.mono e ds _ r)
    | dt h r => exact .dt (e _ _ h) (RpT.mono e ds _ r)
theorem RpL.mono (e : Ex B B') : ∀ (ds : List PyData) (vs : List V), RpL B vs ds → RpL B' vs ds
  | [], _, h => by cases h; exact .nil
  | d :: ds, _, h => by
    cases h with
    | cons a r => exact .cons (Rp.mono e d _ a) (RpL.mono e ds _ r)
theorem RpK.mono (e : Ex B B') : ∀ (ds : List (PyData × PyData)) (vs : List (Key × V)), RpK B vs ds → RpK B' vs ds
  | [], _, h => by cases h; exact .nil
  | (k, d) :: ds, _, h => by
    cases h with
    | cons a r => exact .cons (Rp.mono e d _ a) (RpK.mono e ds _ r)
theorem RpT.mono (e : Ex B B') : ∀ (ds : List (PyData × PyData)) (vs : List (List Key × V)), RpT B vs ds → RpT B' vs ds
  | [], _, h => by cases h; exact .nil
  | (k, d) :: ds, _, h => by
    cases h with
    | cons a r => exact .cons (Rp.mono e d _ a) (RpT.mono e ds _ r)
end
end
theorem Rp.up {B B' : Hp} {v : V} {d : PyData} (h : Rp B v d) (e : Ex B B') : Rp B' v d := Rp.mono e d v h
theorem RpL.up {B B' : Hp} {v : List V} {d : List PyData} (h : RpL B v d) (e : Ex B B') : RpL B' v d := RpL.mono e d v h
theorem RpK.up {B B' : Hp} {v : List (Key × V)} {d : List (PyData × PyData)} (h : RpK B v d) (e : Ex B B') : RpK B' v d := RpK.mono e d v h
theorem RpT.up {B B' : Hp} {v : List (List Key × V)} {d : List (PyData × PyData)} (h : RpT B v d) (e : Ex B B') : RpT B' v d := RpT.mono e d v h
theorem RpL.length {B : Hp} : ∀ {vs : List V} {ds : List PyData}, RpL B vs ds → vs.length = ds.length
  | [], _, h => by cases h; rfl
  | v :: vs, _, h => by
    cases h with
    | cons a r => simp [RpL.length r]
theorem RpL.get {B : Hp} : ∀ {vs : List V} {ds : List PyData} {i : Nat} {d : PyData}, RpL B vs ds → ds[i]? = some d → ∃ v, vs[i]? = some v ∧ Rp B v d
  | [], _, i, d, h, e => by cases h; simp at e
  | v :: vs, _, i, d, h, e => by
    cases h with
    | cons a r =>
      cases i with
      | zero => simp at e; subst e; exact ⟨v, rfl, a⟩
      | succ i =>
        obtain ⟨w, h1, h2⟩ := RpL.get r (i := i) (d := d) (by simpa using e)
        exact ⟨w, by simpa using h1, h2⟩
theorem RpL.get' {B : Hp} : ∀ {vs : List V} {ds : List PyData} {i : Nat} {v : V}, RpL B vs ds → vs[i]? = some v → ∃ d, ds[i]? = some d ∧ Rp B v d
  | [], _, i, d, h, e => by simp at e
  | v :: vs, _, i, d, h, e => by
    cases h with
    | cons a r =>
      cases i with
      | zero => simp at e; subst e; exact ⟨_, rfl, a⟩
      | succ i =>
        obtain ⟨w, h1, h2⟩ := RpL.get' r (i := i) (v := d) (by simpa using e)
        exact ⟨w, by simpa using h1, h2⟩
theorem RpL.append {B : Hp} : ∀ {vs ws : List V} {ds es : List PyData}, RpL B vs ds → RpL B ws es → RpL B (vs ++ ws) (ds ++ es)
  | [], _, _, _, h, g => by cases h; exact g
  | v :: vs, _, _, _, h, g => by
    cases h with
    | cons a r => exact .cons a (RpL.append r g)
theorem RpL.take {B : Hp} : ∀ (n : Nat) {vs : List V} {ds : List PyData}, RpL B vs ds → RpL B (vs.take n) (ds.take n)
  | 0, _, _, _ => by simp; exact .nil
  | n + 1, [], _, h => by cases h; exact .nil
  | n + 1, v :: vs, _, h => by
    cases h with
    | cons a r => exact .cons a (RpL.take n r)
theorem RpL.drop {B : Hp} : ∀ (n : Nat) {vs : List V} {ds : List PyData}, RpL B vs ds → RpL B (vs.drop n) (ds.drop n)
  | 0, _, _, h => h
  | n + 1, [], _, h => by cases h; exact .nil
  | n + 1, v :: vs, _, h => by
    cases h with
    | cons a r => exact RpL.drop n r
theorem RpL.set {B : Hp} {v : V} {d : PyData} (hv : Rp B v d) : ∀ {vs : List V} {ds : List PyData} (i : Nat), RpL B vs ds → RpL B (vs.set i v) (ds.set i d)
  | [], _, _, h => by cases h; exact .nil
  | w :: vs, _, i, h => by
    cases h with
    | cons a r =>
      cases i with
      | zero => exact .cons hv r
      | succ i => exact .cons a (RpL.set hv i r)
theorem RpL.one {B : Hp} {v : V} {d : PyData} (h : Rp B v d) : RpL B [v] [d] := .cons h .nil
theorem RpL.reverse {B : Hp} : ∀ {vs : List V} {ds : List PyData}, RpL B vs ds → RpL B vs.reverse ds.reverse
  | [], _, h => by cases h; exact .nil
  | v :: vs, _, h => by
    cases h with
    | cons a r =>
      rw [List.reverse_cons, List.reverse_cons]
      exact (RpL.reverse r).append (.one a)

inductive Sl where
  | no
  | d (x : PyData)
  | v (a : Addr) (u : Option (Obj × List V))
  | l (xs : List PyData)
  | g (xs : List PyData)
  | k (kvs : List (PyData × PyData))
def Sl.own : Sl → Bool
  | .l _ => true
  | .g _ => true
  | .k _ => true
  | _ => false
abbrev DEnv := List Sl
def RS (O : Addr → Prop) (F B H : Hp) (o : Option V) : Sl → Prop
  | .no => True
  | .d x => ∃ v, o = some v ∧ Rp B v x
  | .v a u => o = some (.ref a) ∧ ∀ z, u = some z → F a = some (.frz z.1 (.lst z.2))
  | .l xs => ∃ p vs, o = some (.ref p) ∧ H p = some (.lst vs) ∧ RpL B vs xs ∧ B p = none ∧ F p = none ∧ ¬ O p
  | .g xs => ∃ p vs, o = some (.ref p) ∧ H p = some (.lst vs) ∧ RpL B vs xs ∧ B p = none ∧ F p = none ∧ O p
  | .k kvs => ∃ p vs, o = some (.ref p) ∧ H p = some (.dK vs) ∧ RpK B vs kvs ∧ B p = none ∧ F p = none ∧ ¬ O p
structure R (O : Addr → Prop) (F B H : Hp) (σ : L2.St) (ρ : DEnv) : Prop where
  eb : Ex B H
  ef : Ex F H
  fo : ∀ p, F p ≠ none → O p
  od : ∀ p, O p → H p ≠ none
  len : σ.length = ρ.length
  sl : ∀ (i : Nat) (s : Sl), ρ[i]? = some s → ∃ o, σ[i]? = some o ∧ RS O F B H o s
  sep : ∀ (i j : Nat) (si sj : Sl) (p : Addr), ρ[i]? = some si → ρ[j]? = some sj → si.own = true → sj.own = true → σ[i]? = some (some (.ref p)) → σ[j]? = some (some (.ref p)) → i = j
/-- what is shared has grown, by what is new alone -/
structure Gr (O : Addr → Prop) (B B' : Hp) : Prop where
  ex : Ex B B'
  ag : ∀ p, O p → B' p = B p ∨ ∃ xs, B' p = some (.tup xs)
section
variable {O : Addr → Prop} {F B H B' H' B2 : Hp} {σ : L2.St} {ρ ρ' : DEnv}
theorem Gr.refl : Gr O B B := ⟨Ex.refl B, fun _ _ => .inl rfl⟩
theorem Gr.trans (a : Gr O B B') (b : Gr O B' B2) : Gr O B B2 := ⟨a.ex.trans b.ex, fun p h => (b.ag p h).elim (fun e => (a.ag p h).elim (fun e2 => .inl (e.trans e2)) fun ⟨xs, e2⟩ => .inr ⟨xs, e.trans e2⟩) fun e => .inr e⟩
theorem Gr.new (h : R O F B H σ ρ) {p : Addr} {o : HO} (hp : H p = none) : Gr O B (upd B p o) :=
  ⟨Ex.new (h.eb.free hp), fun q hq => .inl (upd_ne fun e => h.od q hq (by rw [e]; exact hp))⟩
/-- growth where no cell has changed -/
theorem R.grow (h : R O F B H σ ρ) (b : Ex B B') (bh : Ex B' H') (hh : Ex H H') (ag0 : ∀ p, H p ≠ none → B' p = B p ∨ ∃ xs, B' p = some (.tup xs)) : R O F B' H' σ ρ where
  eb := bh
  ef := h.ef.trans hh
  fo := h.fo
  od := fun p hp => hh.ne (h.od p hp)
  len := h.len
  sl := fun i s e => by
    obtain ⟨o, h1, h2⟩ := h.sl i s e
    have ag : ∀ p, (∃ vs, H p = some (.lst vs)) ∨ (∃ vs, H p = some (.dK vs)) → B' p = B p := fun p hp => by
      have hn : H p ≠ none := by
        rcases hp with ⟨vs, e⟩ | ⟨vs, e⟩ <;> (rw [e]; exact fun z => nomatch z)
      rcases ag0 p hn with e | ⟨xs, e⟩
      · exact e
      · have e1 := bh _ _ e
        rcases hp with ⟨vs, e2⟩ | ⟨vs, e2⟩ <;> (rw [hh _ _ e2] at e1; cases e1)
    refine ⟨o, h1, ?_⟩
    cases s with
    | no => trivial
    | d x => obtain ⟨v, e1, r⟩ := h2; exact ⟨v, e1, r.up b⟩
    | v a u => exact h2
    | l xs =>
      obtain ⟨p, vs, e1, e2, r, n1, n2, n3⟩ := h2
      exact ⟨p, vs, e1, hh _ _ e2, r.up b, (ag p (.inl ⟨_, e2⟩)).trans n1, n2, n3⟩
    | g xs =>
      obtain ⟨p, vs, e1, e2, r, n1, n2, n3⟩ := h2
      exact ⟨p, vs, e1, hh _ _ e2, r.up b, (ag p (.inl ⟨_, e2⟩)).trans n1, n2, n3⟩
    | k xs =>
      obtain ⟨p, vs, e1, e2, r, n1, n2, n3⟩ := h2
      exact ⟨p, vs, e1, hh _ _ e2, r.up b, (ag p (.inr ⟨_, e2⟩)).trans n1, n2, n3⟩
  sep := h.sep
/-- a new object, shared at once -/
theorem R.new (h : R O F B H σ ρ) {p : Addr} {o : HO} (hp : H p = none) : R O F (upd B p o) (upd H p o) σ ρ :=
  h.grow (Ex.new (h.eb.free hp)) (h.eb.up hp) (Ex.new hp) fun q hq => .inl (upd_ne fun e => hq (by rw [e]; exact hp))
/-- a new object that is nobody's yet -/
theorem R.newO (h : R O F B H σ ρ) {p : Addr} {o : HO} (hp : H p = none) : R O F B (upd H p o) σ ρ :=
  h.grow (Ex.refl B) (h.eb.trans (Ex.new hp)) (Ex.new hp) fun _ _ => .inl rfl
/-- a cell that is nobody's is shared -/
def Free (σ : L2.St) (ρ : DEnv) (p : Addr) : Prop := ∀ (i : Nat) (s : Sl), ρ[i]? = some s → s.own = true → σ[i]? ≠ some (some (.ref p))
theorem R.free_new (h : R O F B H σ ρ) {p : Addr} (hp : H p = none) : Free σ ρ p := fun i s e so e2 => by
  obtain ⟨o, h1, h2⟩ := h.sl i s e
  rw [e2] at h1
  cases h1
  cases s with
  | no => cases so
  | d x => cases so
  | v a u => cases so
  | l xs => obtain ⟨q, vs, e1, e3, _⟩ := h2; cases e1; rw [hp] at e3; cases e3
  | g xs => obtain ⟨q, vs, e1, e3, _⟩ := h2; cases e1; rw [hp] at e3; cases e3
  | k xs => obtain ⟨q, vs, e1, e3, _⟩ := h2; cases e1; rw [hp] at e3; cases e3
theorem R.share (h : R O F B H σ ρ) {p : Addr} {o : HO} (hp : H p = some o) (nb : B p = none) (f : Free σ ρ p) : R O F (upd B p o) H σ ρ where
  eb := h.eb.up2 hp
  ef := h.ef
  fo := h.fo
  od := h.od
  len := h.len
  sl := fun i s e => by
    obtain ⟨o', h1, h2⟩ := h.sl i s e
    have b : Ex B (upd B p o) := Ex.new nb
    refine ⟨o', h1, ?_⟩
    cases s with
    | no => trivial
    | d x => obtain ⟨v, e1, r⟩ := h2; exact ⟨v, e1, r.up b⟩
    | v a u => exact h2
    | l xs =>
      obtain ⟨q, vs, e1, e2, r, n1, n2, n3⟩ := h2
      have nq : q ≠ p := fun z => f i _ e rfl (by rw [h1, e1, z])
      exact ⟨q, vs, e1, e2, r.up b, by rw [upd_ne nq]; exact n1, n2, n3⟩
    | g xs =>
      obtain ⟨q, vs, e1, e2, r, n1, n2, n3⟩ := h2
      have nq : q ≠ p := fun z => f i _ e rfl (by rw [h1, e1, z])
      exact ⟨q, vs, e1, e2, r.up b, by rw [upd_ne nq]; exact n1, n2, n3⟩
    | k xs =>
      obtain ⟨q, vs, e1, e2, r, n1, n2, n3⟩ := h2
      have nq : q ≠ p := fun z => f i _ e rfl (by rw [h1, e1, z])
      exact ⟨q, vs, e1, e2, r.up b, by rw [upd_ne nq]; exact n1, n2, n3⟩
  sep := h.sep
theorem Gr.share {p : Addr} {o : HO} (nb : B p = none) (no : ¬ O p) : Gr O B (upd B p o) := ⟨Ex.new nb, fun q hq => .inl (upd_ne fun e => no (e ▸ hq))⟩
theorem R.lt (h : R O F B H σ ρ) {i : Nat} {s : Sl} (e : ρ[i]? = some s) : i < σ.length := by
  rw [h.len]; exact (List.getElem?_eq_some_iff.mp e).1
theorem getElem?_set_cases {α : Type} {l : List α} {i j : Nat} {a b : α} (h : (l.set i a)[j]? = some b) : (i = j ∧ b = a) ∨ (i ≠ j ∧ l[j]? = some b) := by
  by_cases e : i = j
  · subst e
    have hl : i < l.length := by
      have := (List.getElem?_eq_some_iff.mp h).1
      simpa using this
    rw [List.getElem?_set_self hl] at h
    exact .inl ⟨rfl, (Option.some.inj h).symm⟩
  · rw [List.getElem?_set_ne e] at h
    exact .inr ⟨e, h⟩
/-- a slot set -/
theorem R.set (h : R O F B H σ ρ) {i : Nat} {v : V} {s : Sl} (hs : RS O F B H (some v) s) (hf : s.own = true → ∀ p, v = .ref p → Free σ ρ p) : R O F B H (σ.set i (some v)) (ρ.set i s) where
  eb := h.eb
  ef := h.ef
  fo := h.fo
  od := h.od
  len := by simp [h.len]
  sl := fun j t e => by
    rcases getElem?_set_cases e with ⟨rfl, rfl⟩ | ⟨ne, e⟩
    · have hi : i < σ.length := by
        have := (List.getElem?_eq_some_iff.mp e).1
        rw [h.len]; simpa using this
      exact ⟨some v, List.getElem?_set_self hi, hs⟩
    · obtain ⟨o, h1, h2⟩ := h.sl j t e
      exact ⟨o, by rw [List.getElem?_set_ne ne]; exact h1, h2⟩
  sep := fun a b sa sb p ea0 eb0 oa ob ha hb => by
    rcases getElem?_set_cases ea0 with ⟨rfl, rfl⟩ | ⟨na, ea⟩
    · rcases getElem?_set_cases eb0 with ⟨e, _⟩ | ⟨nb, eb⟩
      · exact e
      · rcases getElem?_set_cases ha with ⟨_, e⟩ | ⟨n, _⟩
        · cases e
          rw [List.getElem?_set_ne nb] at hb
          exact absurd hb (hf oa p rfl b sb eb ob)
        · exact absurd rfl n
    · rcases getElem?_set_cases eb0 with ⟨rfl, rfl⟩ | ⟨nb, eb⟩
      · rcases getElem?_set_cases hb with ⟨_, e⟩ | ⟨n, _⟩
        · cases e
          rw [List.getElem?_set_ne na] at ha
          exact absurd ha (hf ob p rfl a sa ea oa)
        · exact absurd rfl n
      · rw [List.getElem?_set_ne na] at ha
        rw [List.getElem?_set_ne nb] at hb
        exact h.sep a b sa sb p ea eb oa ob ha hb
theorem R.set_d (h : R O F B H σ ρ) {i : Nat} {v : V} {d : PyData} (hv : Rp B v d) : R O F B H (σ.set i (some v)) (ρ.set i (.d d)) := h.set ⟨v, rfl, hv⟩ fun z => nomatch z
/-- a slot is told otherwise, its value is the same; nobody's -/
theorem R.tell (h : R O F B H σ ρ) {i : Nat} {s : Sl} (hs : ∀ o, σ[i]? = some o → RS O F B H o s) (hf : s.own = true → ∃ t, ρ[i]? = some t ∧ t.own = true) : R O F B H σ (ρ.set i s) where
  eb := h.eb
  ef := h.ef
  fo := h.fo
  od := h.od
  len := by simp [h.len]
  sl := fun j t e => by
    rcases getElem?_set_cases e with ⟨rfl, rfl⟩ | ⟨ne, e⟩
    · have hi : i < σ.length := by
        have := (List.getElem?_eq_some_iff.mp e).1
        rw [h.len]; simpa using this
      exact ⟨σ[i], List.getElem?_eq_getElem hi, hs _ (List.getElem?_eq_getElem hi)⟩
    · exact h.sl j t e
  sep := fun a b sa sb p ea0 eb0 oa ob ha hb => by
    rcases getElem?_set_cases ea0 with ⟨rfl, rfl⟩ | ⟨na, ea⟩
    · rcases getElem?_set_cases eb0 with ⟨e, _⟩ | ⟨nb, eb⟩
      · exact e
      · obtain ⟨t, et, ot⟩ := hf oa
        exact h.sep _ _ t sb p et eb ot ob ha hb
    · rcases getElem?_set_cases eb0 with ⟨rfl, rfl⟩ | ⟨nb, eb⟩
      · obtain ⟨t, et, ot⟩ := hf ob
        exact h.sep _ _ sa t p ea et oa ot ha hb
      · exact h.sep a b sa sb p ea eb oa ob ha hb
/-- an own cell changed -/
theorem R.mut (h : R O F B H σ ρ) {i : Nat} {p : Addr} {o : HO} {s t : Sl} (e : ρ[i]? = some s) (so : s.own = true) (es : σ[i]? = some (some (.ref p))) (nb : B p = none) (nf : F p = none) (hp : H p ≠ none)
    (ht : RS O F B (upd H p o) (some (.ref p)) t) (to : t.own = true) : R O F B (upd H p o) σ (ρ.set i t) where
  eb := h.eb.mut nb
  ef := h.ef.mut nf
  fo := h.fo
  od := fun q hq => by
    by_cases z : q = p
    · subst z; rw [upd_same]; exact fun y => nomatch y
    · rw [upd_ne z]; exact h.od q hq
  len := by simp [h.len]
  sl := fun j u ej => by
    rcases getElem?_set_cases ej with ⟨rfl, rfl⟩ | ⟨ne, ej⟩
    · exact ⟨_, es, ht⟩
    · obtain ⟨o', h1, h2⟩ := h.sl j u ej
      refine ⟨o', h1, ?_⟩
      cases u with
      | no => trivial
      | d x => exact h2
      | v a u => exact h2
      | l xs =>
        obtain ⟨q, vs, e1, e2, r, n1, n2, n3⟩ := h2
        have nq : q ≠ p := fun z => ne (h.sep i j s _ p e ej so rfl es (by rw [h1, e1, z]))
        exact ⟨q, vs, e1, by rw [upd_ne nq]; exact e2, r, n1, n2, n3⟩
      | g xs =>
        obtain ⟨q, vs, e1, e2, r, n1, n2, n3⟩ := h2
        have nq : q ≠ p := fun z => ne (h.sep i j s _ p e ej so rfl es (by rw [h1, e1, z]))
        exact ⟨q, vs, e1, by rw [upd_ne nq]; exact e2, r, n1, n2, n3⟩
      | k xs =>
        obtain ⟨q, vs, e1, e2, r, n1, n2, n3⟩ := h2
        have nq : q ≠ p := fun z => ne (h.sep i j s _ p e ej so rfl es (by rw [h1, e1, z]))
        exact ⟨q, vs, e1, by rw [upd_ne nq]; exact e2, r, n1, n2, n3⟩
  sep := fun a b sa sb q ea0 eb0 oa ob ha hb => by
    rcases getElem?_set_cases ea0 with ⟨rfl, rfl⟩ | ⟨na, ea⟩
    · rcases getElem?_set_cases eb0 with ⟨e', _⟩ | ⟨nb', eb⟩
      · exact e'
      · exact h.sep _ _ s sb q e eb so ob ha hb
    · rcases getElem?_set_cases eb0 with ⟨rfl, rfl⟩ | ⟨nb', eb⟩
      · exact h.sep _ _ sa s q ea e oa so ha hb
      · exact h.sep a b sa sb q ea eb oa ob ha hb
/-- a slot forgotten -/
theorem R.drop (h : R O F B H σ ρ) {i : Nat} {o : Option V} : R O F B H (σ.set i o) (ρ.set i .no) where
  eb := h.eb
  ef := h.ef
  fo := h.fo
  od := h.od
  len := by simp [h.len]
  sl := fun j t e => by
    rcases getElem?_set_cases e with ⟨rfl, rfl⟩ | ⟨ne, e⟩
    · have hi : i < σ.length := by
        have := (List.getElem?_eq_some_iff.mp e).1
        rw [h.len]; simpa using this
      exact ⟨o, List.getElem?_set_self hi, trivial⟩
    · obtain ⟨u, h1, h2⟩ := h.sl j t e
      exact ⟨u, by rw [List.getElem?_set_ne ne]; exact h1, h2⟩
  sep := fun a b sa sb p ea0 eb0 oa ob ha hb => by
    rcases getElem?_set_cases ea0 with ⟨rfl, rfl⟩ | ⟨na, ea⟩
    · cases oa
    · rcases getElem?_set_cases eb0 with ⟨rfl, rfl⟩ | ⟨nb, eb⟩
      · cases ob
      · rw [List.getElem?_set_ne na] at ha
        rw [List.getElem?_set_ne nb] at hb
        exact h.sep a b sa sb p ea eb oa ob ha hb
end
end DL

namespace DL
open PySem PySem.Spec PyProof.Rows L2

abbrev DE := DEnv → (PyData → DEnv → Prop) → Prop
abbrev DT := DEnv → (Bool → DEnv → Prop) → Prop
abbrev DA := DEnv → (List PyData → DEnv → Prop) → Prop
structure DEnds where
  nx : DEnv → Prop
  rt : PyData → DEnv → Prop
  bk : DEnv → Prop := fun _ => False
  ct : DEnv → Prop := fun _ => False
  rn : List PyData → DEnv → Prop := fun xs ρ => rt (.list xs) ρ
abbrev DS := DEnds → DEnv → Prop
abbrev DG := PyData → DEnv → (DEnv → Prop) → Prop
abbrev DGs := List PyData → DEnv → (DEnv → Prop) → Prop

class SemE (T : TE) (t : outParam DE) : Prop where
  run : ∀ {O : Addr → Prop} {F B H : Hp} {σ : L2.St} {ρ : DEnv} {Q : PyData → DEnv → Prop} {Q' : VK}, R O F B H σ ρ → t ρ Q →
    (∀ v H' B' ρ' d, R O F B' H' σ ρ' → Gr O B B' → Rp B' v d → Q d ρ' → Q' v H') → T σ H Q'
class SemN (T : TE) (t : outParam DA) : Prop where
  run : ∀ {O : Addr → Prop} {F B H : Hp} {σ : L2.St} {ρ : DEnv} {Q : List PyData → DEnv → Prop} {Q' : VK}, R O F B H σ ρ → t ρ Q →
    (∀ p vs ds H' B' ρ', R O F B' H' σ ρ' → Gr O B B' → H' p = some (.lst vs) → RpL B' vs ds → B' p = none → F p = none → ¬ O p → Free σ ρ' p → Q ds ρ' → Q' (.ref p) H') → T σ H Q'
class SemT (T : TT) (t : outParam DT) : Prop where
  run : ∀ {O : Addr → Prop} {F B H : Hp} {σ : L2.St} {ρ : DEnv} {Q : Bool → DEnv → Prop} {Q' : Bool → Hp → Prop}, R O F B H σ ρ → t ρ Q →
    (∀ b H' B' ρ', R O F B' H' σ ρ' → Gr O B B' → Q b ρ' → Q' b H') → T σ H Q'
class SemA (T : TA) (t : outParam DA) : Prop where
  run : ∀ {O : Addr → Prop} {F B H : Hp} {σ : L2.St} {ρ : DEnv} {Q : List PyData → DEnv → Prop} {Q' : List V → Hp → Prop}, R O F B H σ ρ → t ρ Q →
    (∀ vs H' B' ρ' ds, R O F B' H' σ ρ' → Gr O B B' → RpL B' vs ds → Q ds ρ' → Q' vs H') → T σ H Q'
structure EO (O : Addr → Prop) (F B : Hp) (D : DEnds) (D' : Ends) : Prop where
  nx : ∀ {B' H' : Hp} {σ' : L2.St} {ρ' : DEnv}, R O F B' H' σ' ρ' → Gr O B B' → D.nx ρ' → D'.nx σ' H'
  bk : ∀ {B' H' : Hp} {σ' : L2.St} {ρ' : DEnv}, R O F B' H' σ' ρ' → Gr O B B' → D.bk ρ' → D'.bk σ' H'
  ct : ∀ {B' H' : Hp} {σ' : L2.St} {ρ' : DEnv}, R O F B' H' σ' ρ' → Gr O B B' → D.ct ρ' → D'.ct σ' H'
  rt : ∀ {B' H' : Hp} {σ' : L2.St} {ρ' : DEnv} {v : V} {d : PyData}, R O F B' H' σ' ρ' → Gr O B B' → Rp B' v d → D.rt d ρ' → D'.rt v H'
  rn : ∀ {B' H' : Hp} {σ' : L2.St} {ρ' : DEnv} {p : Addr} {vs : List V} {ds : List PyData}, R O F B' H' σ' ρ' → Gr O B B' → H' p = some (.lst vs) → RpL B' vs ds → B' p = none → F p = none → ¬ O p → Free σ' ρ' p → D.rn ds ρ' → D'.rt (.ref p) H'
theorem EO.mono {O : Addr → Prop} {F B B1 : Hp} {D : DEnds} {D' : Ends} (e : EO O F B D D') (g : Gr O B B1) : EO O F B1 D D' :=
  ⟨fun r h q => e.nx r (g.trans h) q, fun r h q => e.bk r (g.trans h) q, fun r h q => e.ct r (g.trans h) q, fun r h v q => e.rt r (g.trans h) v q, fun r h h1 h2 h3 h4 h5 h6 q => e.rn r (g.trans h) h1 h2 h3 h4 h5 h6 q⟩
class SemS (T : TS) (t : outParam DS) : Prop where
  run : ∀ {O : Addr → Prop} {F B H : Hp} {σ : L2.St} {ρ : DEnv} {D : DEnds} {D' : Ends}, R O F B H σ ρ → t D ρ → EO O F B D D' → T D' σ H
structure Keeps (sl : List Nat) (σ σ' : L2.St) : Prop where
  len : σ'.length = σ.length
  at_ : ∀ j, j ∉ sl → σ'[j]? = σ[j]?
class SemG (T : TG) (t : outParam DG) (sl : outParam (List Nat)) : Prop where
  run : ∀ {O : Addr → Prop} {F B H : Hp} {σ : L2.St} {ρ : DEnv} {v : V} {d : PyData} {Q : DEnv → Prop} {Q' : L2.St → Hp → Prop}, R O F B H σ ρ → Rp B v d → t d ρ Q →
    (∀ σ' H' B' ρ', R O F B' H' σ' ρ' → Gr O B B' → Keeps sl σ σ' → Q ρ' → Q' σ' H') → T v σ H Q'
class SemGs (T : TGs) (t : outParam DGs) (sl : outParam (List Nat)) : Prop where
  run : ∀ {O : Addr → Prop} {F B H : Hp} {σ : L2.St} {ρ : DEnv} {vs : List V} {ds : List PyData} {Q : DEnv → Prop} {Q' : L2.St → Hp → Prop}, R O F B H σ ρ → RpL B vs ds → t ds ρ Q →
    (∀ σ' H' B' ρ', R O F B' H' σ' ρ' → Gr O B B' → Keeps sl σ σ' → Q ρ' → Q' σ' H') → T vs σ H Q'

def dVar (i : Nat) : DE := fun ρ Q => match ρ[i]? with
  | some (.d x) => Q x ρ
  | some (.l xs) => Q (.list xs) (ρ.set i (.d (.list xs)))
  | some (.k xs) => Q (.dict xs) (ρ.set i (.d (.dict xs)))
  | _ => False
section
variable {O : Addr → Prop} {F B H : Hp} {σ : L2.St} {ρ : DEnv}
theorem R.own_free (h : R O F B H σ ρ) {i : Nat} {s : Sl} {p : Addr} (e : ρ[i]? = some s) (so : s.own = true) (es : σ[i]? = some (some (.ref p))) {t : Sl} (ht : t.own = false) : Free σ (ρ.set i t) p := fun j u ej uo es2 => by
  rcases getElem?_set_cases ej with ⟨rfl, rfl⟩ | ⟨ne, ej⟩
  · rw [ht] at uo; cases uo
  · exact ne (h.sep i j s u p e ej so uo es es2)
/-- an own list or dict given away -/
theorem R.give (h : R O F B H σ ρ) {i : Nat} {p : Addr} {o : HO} {s : Sl} {d : PyData} (e : ρ[i]? = some s) (so : s.own = true) (es : σ[i]? = some (some (.ref p))) (hp : H p = some o) (nb : B p = none)
    (r : Rp (upd B p o) (.ref p) d) : R O F (upd B p o) H σ (ρ.set i (.d d)) := by
  have h1 : R O F B H σ (ρ.set i .no) := h.tell (fun _ _ => trivial) fun z => nomatch z
  have f : Free σ (ρ.set i .no) p := h.own_free e so es rfl
  have h2 := h1.share hp nb f
  have h3 := h2.tell (i := i) (s := .d d) (fun o' e' => by rw [es] at e'; cases e'; exact ⟨_, rfl, r⟩) fun z => nomatch z
  rw [List.set_set] at h3
  exact h3
end
/-- a name; a dict of one's own is locked when it is given away -/
def tVarF (i : Nat) : TE := fun σ H Q => ∃ v, σ[i]? = some (some v) ∧ (Q v H ∨ ∃ d u, v = .ref d ∧ H d = some u ∧ Mut (some u) ∧ ∀ o, Q v (upd H d (.frz o u)))
theorem pvF {X : Cx} (i : Nat) {x : Str} {pos : Pos} (hN : X.N[i]? = some x := by rfl) (hv : Vis X.env.scope x := by first | exact Or.inl rfl | exact Or.inr (Or.inl rfl) | exact Or.inr (Or.inr rfl)) (hd : (x == ("__debug__" : Str)) = false := by decide)
    (hcd : (x == ("__classdict__" : Str)) = false := by decide) : PE X (.Name x pos) (tVarF i) := ⟨fun pins s σ H Q I h => by
  obtain ⟨v, e, h⟩ := h
  rcases h with h | ⟨d, u, rfl, hdd, mu, h⟩
  · exact (pe_var hN hv hd hcd).run pins s σ H Q I ⟨v, e, h⟩
  · obtain ⟨od, I1⟩ := I.lock hdd mu
    exact (pe_var hN hv hd hcd).run pins s σ _ Q I1 ⟨_, e, h od⟩⟩
section
variable {O : Addr → Prop} {F B H : Hp} {σ : L2.St} {ρ : DEnv}
theorem R.lockup (h : R O F B H σ ρ) {i : Nat} {p : Addr} {u : HO} {o : Obj} {s : Sl} {d : PyData} (e : ρ[i]? = some s) (so : s.own = true) (es : σ[i]? = some (some (.ref p))) (hp : H p = some u) (nb : B p = none) (nf : F p = none)
    (r : Rp (upd B p (.frz o u)) (.ref p) d) : R O F (upd B p (.frz o u)) (upd H p (.frz o u)) σ (ρ.set i (.d d)) := by
  have f : Free σ (ρ.set i .no) p := h.own_free e so es rfl
  have h1 : R O F B H σ (ρ.set i .no) := h.tell (fun _ _ => trivial) fun z => nomatch z
  have h2 : R O F (upd B p (.frz o u)) (upd H p (.frz o u)) σ (ρ.set i .no) := {
    eb := h1.eb.up2m nb
    ef := h1.ef.mut nf
    fo := h1.fo
    od := fun q hq => by
      by_cases z : q = p
      · subst z; rw [upd_same]; exact fun y => nomatch y
      · rw [upd_ne z]; exact h1.od q hq
    len := h1.len
    sl := fun j t ej => by
      obtain ⟨o', e1, e2⟩ := h1.sl j t ej
      have b : Ex B (upd B p (.frz o u)) := Ex.new nb
      refine ⟨o', e1, ?_⟩
      cases t with
      | no => trivial
      | d x => obtain ⟨v, e3, r⟩ := e2; exact ⟨v, e3, r.up b⟩
      | v a u => exact e2
      | l xs =>
        obtain ⟨q, vs, e3, e4, r, n1, n2, n3⟩ := e2
        have nq : q ≠ p := fun z => f j _ ej rfl (by rw [e1, e3, z])
        exact ⟨q, vs, e3, by rw [upd_ne nq]; exact e4, r.up b, by rw [upd_ne nq]; exact n1, n2, n3⟩
      | g xs =>
        obtain ⟨q, vs, e3, e4, r, n1, n2, n3⟩ := e2
        have nq : q ≠ p := fun z => f j _ ej rfl (by rw [e1, e3, z])
        exact ⟨q, vs, e3, by rw [upd_ne nq]; exact e4, r.up b, by rw [upd_ne nq]; exact n1, n2, n3⟩
      | k xs =>
        obtain ⟨q, vs, e3, e4, r, n1, n2, n3⟩ := e2
        have nq : q ≠ p := fun z => f j _ ej rfl (by rw [e1, e3, z])
        exact ⟨q, vs, e3, by rw [upd_ne nq]; exact e4, r.up b, by rw [upd_ne nq]; exact n1, n2, n3⟩
    sep := h1.sep }
  have h3 := h2.tell (i := i) (s := .d d) (fun o' e' => by rw [es] at e'; cases e'; exact ⟨_, rfl, r⟩) fun z => nomatch z
  rw [List.set_set] at h3
  exact h3
end
instance semVar (i : Nat) : SemE (tVarF i) (dVar i) where
  run := by
    intro O F B H σ ρ Q Q' h q k
    unfold dVar at q
    split at q
    · rename_i x e
      obtain ⟨o, e1, v, rfl, r⟩ := h.sl _ _ e
      exact ⟨v, e1, .inl (k v H B ρ x h .refl r q)⟩
    · rename_i xs e
      obtain ⟨o, e1, p, vs, rfl, hp, r, nb, nf, no⟩ := h.sl _ _ e
      have g : Gr O B (upd B p (.lst vs)) := Gr.share nb no
      have r' : Rp (upd B p (.lst vs)) (.ref p) (.list xs) := .lst upd_same (r.up g.ex)
      exact ⟨.ref p, e1, .inl (k _ H _ _ _ (h.give e rfl e1 hp nb r') g r' q)⟩
    · rename_i xs e
      obtain ⟨o, e1, p, vs, rfl, hp, r, nb, nf, no⟩ := h.sl _ _ e
      refine ⟨.ref p, e1, .inr ⟨p, _, rfl, hp, trivial, fun ob => ?_⟩⟩
      have g : Gr O B (upd B p (.frz ob (.dK vs))) := Gr.share nb no
      have r' : Rp (upd B p (.frz ob (.dK vs))) (.ref p) (.dict xs) := .dk upd_same (r.up g.ex)
      exact k _ _ _ _ _ (h.lockup e rfl e1 hp nb nf r') g r' q
    · exact q.elim
def dC (x : PyData) : DE := fun ρ Q => Q x ρ
instance semInt (i : Int) : SemE (tC (.int i)) (dC (.int i)) where
  run := fun h q k => k _ _ _ _ _ h .refl (.int i) q
instance semStr (i : Str) : SemE (tC (.str i)) (dC (.str i)) where
  run := fun h q k => k _ _ _ _ _ h .refl (.str i) q
instance semBl (i : Bool) : SemE (tC (.bl i)) (dC (.bool i)) where
  run := fun h q k => k _ _ _ _ _ h .refl (.bl i) q
instance semNon : SemE (tC .non) (dC .none) where
  run := fun h q k => k _ _ _ _ _ h .refl .non q

abbrev D2 := PyData → PyData → (PyData → Prop) → Prop
abbrev D1 := PyData → (PyData → Prop) → Prop
class Op2 (r : R2) (f : outParam D2) : Prop where
  run : ∀ {O : Addr → Prop} {F B H : Hp} {σ : L2.St} {ρ : DEnv} {x y : V} {dx dy : PyData} {Q : PyData → Prop} {Q' : VK}, R O F B H σ ρ → Rp B x dx → Rp B y dy → f dx dy Q →
    (∀ v H' B' d, R O F B' H' σ ρ → Gr O B B' → Rp B' v d → Q d → Q' v H') → r x y H Q'
class Op1 (r : V → Hp → VK → Prop) (f : outParam D1) : Prop where
  run : ∀ {O : Addr → Prop} {F B H : Hp} {σ : L2.St} {ρ : DEnv} {x : V} {dx : PyData} {Q : PyData → Prop} {Q' : VK}, R O F B H σ ρ → Rp B x dx → f dx Q →
    (∀ v H' B' d, R O F B' H' σ ρ → Gr O B B' → Rp B' v d → Q d → Q' v H') → r x H Q'
def dOp (f : D2) (a b : DE) : DE := fun ρ Q => a ρ fun x ρ1 => b ρ1 fun y ρ2 => f x y fun z => Q z ρ2
def dUn (f : D1) (a : DE) : DE := fun ρ Q => a ρ fun x ρ1 => f x fun z => Q z ρ1
instance semOp (r : R2) (Ta Tb : TE) (f : D2) (a b : DE) [i1 : SemE Ta a] [i2 : SemE Tb b] [i3 : Op2 r f] : SemE (tOp r Ta Tb) (dOp f a b) where
  run := fun h q k => i1.run h q fun x H1 B1 ρ1 dx h1 g1 rx q1 => i2.run h1 q1 fun y H2 B2 ρ2 dy h2 g2 ry q2 =>
    i3.run h2 (rx.up g2.ex) ry q2 fun v H3 B3 d h3 g3 rv q3 => k v H3 B3 ρ2 d h3 ((g1.trans g2).trans g3) rv q3
instance semUn (r : V → Hp → VK → Prop) (Ta : TE) (f : D1) (a : DE) [i1 : SemE Ta a] [i3 : Op1 r f] : SemE (tUn r Ta) (dUn f a) where
  run := fun h q k => i1.run h q fun x H1 B1 ρ1 dx h1 g1 rx q1 => i3.run h1 rx q1 fun v H3 B3 d h3 g3 rv q3 => k v H3 B3 ρ1 d h3 (g1.trans g3) rv q3

def dTest (a : DE) : DT := fun ρ Q => a ρ fun x ρ1 => match x with
  | .bool b => Q b ρ1
  | _ => False
theorem semTestCore {Ta : TE} {a : DE} [i1 : SemE Ta a] {O : Addr → Prop} {F B H : Hp} {σ : L2.St} {ρ : DEnv} {Q : Bool → DEnv → Prop} {Q' : Bool → Hp → Prop} (h : R O F B H σ ρ) (q : dTest a ρ Q)
    (k : ∀ b H' B' ρ', R O F B' H' σ ρ' → Gr O B B' → Q b ρ' → Q' b H') : Ta σ H fun x H' => ∃ c, x = .bl c ∧ Q' c H' :=
  i1.run h q fun x H1 B1 ρ1 dx h1 g1 rx q1 => by
    cases rx with
    | bl b => exact ⟨b, rfl, k b _ _ _ h1 g1 q1⟩
    | _ => exact q1.elim
instance semTest (Ta : TE) (a : DE) [i1 : SemE Ta a] : SemT (tTest Ta) (dTest a) where
  run := fun h q k => semTestCore h q k
instance semB (Ta : TE) (a : DE) [i1 : SemE Ta a] : SemT (tB Ta) (dTest a) where
  run := fun h q k => semTestCore h q k
def dAnd (a b : DT) : DT := fun ρ Q => a ρ fun x ρ1 => if x = true then b ρ1 Q else Q false ρ1
def dOr (a b : DT) : DT := fun ρ Q => a ρ fun x ρ1 => if x = true then Q true ρ1 else b ρ1 Q
def dNot (a : DT) : DT := fun ρ Q => a ρ fun x ρ1 => Q (!x) ρ1
instance semAnd (Ta Tb : TT) (a b : DT) [i1 : SemT Ta a] [i2 : SemT Tb b] : SemT (tAnd Ta Tb) (dAnd a b) where
  run := by
    intro O F B H σ ρ Q Q' h q k
    refine i1.run h q fun x H1 B1 ρ1 h1 g1 q1 => ?_
    cases x with
    | true =>
      rw [if_pos rfl] at q1 ⊢
      exact i2.run h1 q1 fun b H2 B2 ρ2 h2 g2 q2 => k b H2 B2 ρ2 h2 (g1.trans g2) q2
    | false =>
      rw [if_neg Bool.false_ne_true] at q1 ⊢
      exact k _ _ _ _ h1 g1 q1
instance semOr (Ta Tb : TT) (a b : DT) [i1 : SemT Ta a] [i2 : SemT Tb b] : SemT (tOr Ta Tb) (dOr a b) where
  run := by
    intro O F B H σ ρ Q Q' h q k
    refine i1.run h q fun x H1 B1 ρ1 h1 g1 q1 => ?_
    cases x with
    | false =>
      rw [if_neg Bool.false_ne_true] at q1 ⊢
      exact i2.run h1 q1 fun b H2 B2 ρ2 h2 g2 q2 => k b H2 B2 ρ2 h2 (g1.trans g2) q2
    | true =>
      rw [if_pos rfl] at q1 ⊢
      exact k _ _ _ _ h1 g1 q1
instance semNot (Ta : TT) (a : DT) [i1 : SemT Ta a] : SemT (tNot Ta) (dNot a) where
  run := fun h q k => i1.run h q fun x H1 B1 ρ1 h1 g1 q1 => k _ _ _ _ h1 g1 q1
/-- .. as values -/
def dAndV (a b : DE) : DE := fun ρ Q => a ρ fun x ρ1 => match x with
  | .bool true => b ρ1 Q
  | .bool false => Q (.bool false) ρ1
  | _ => False
def dOrV (a b : DE) : DE := fun ρ Q => a ρ fun x ρ1 => match x with
  | .bool true => Q (.bool true) ρ1
  | .bool false => b ρ1 Q
  | _ => False
def dNotV (a : DE) : DE := fun ρ Q => a ρ fun x ρ1 => match x with
  | .bool b => Q (.bool (!b)) ρ1
  | _ => False
instance semAndV (Ta Tb : TE) (a b : DE) [i1 : SemE Ta a] [i2 : SemE Tb b] : SemE (tAndV Ta Tb) (dAndV a b) where
  run := by
    intro O F B H σ ρ Q Q' h q k
    refine i1.run h q fun x H1 B1 ρ1 d h1 g1 rx q1 => ?_
    cases rx with
    | bl c =>
      refine ⟨c, rfl, ?_⟩
      cases c with
      | true =>
        rw [if_pos rfl]
        exact i2.run h1 q1 fun b H2 B2 ρ2 d2 h2 g2 r2 q2 => k b H2 B2 ρ2 d2 h2 (g1.trans g2) r2 q2
      | false =>
        rw [if_neg Bool.false_ne_true]
        exact k _ _ _ _ _ h1 g1 (.bl false) q1
    | _ => exact q1.elim
instance semOrV (Ta Tb : TE) (a b : DE) [i1 : SemE Ta a] [i2 : SemE Tb b] : SemE (tOrV Ta Tb) (dOrV a b) where
  run := by
    intro O F B H σ ρ Q Q' h q k
    refine i1.run h q fun x H1 B1 ρ1 d h1 g1 rx q1 => ?_
    cases rx with
    | bl c =>
      refine ⟨c, rfl, ?_⟩
      cases c with
      | false =>
        rw [if_neg Bool.false_ne_true]
        exact i2.run h1 q1 fun b H2 B2 ρ2 d2 h2 g2 r2 q2 => k b H2 B2 ρ2 d2 h2 (g1.trans g2) r2 q2
      | true =>
        rw [if_pos rfl]
        exact k _ _ _ _ _ h1 g1 (.bl true) q1
    | _ => exact q1.elim
instance semNotV (Ta : TE) (a : DE) [i1 : SemE Ta a] : SemE (tNotV Ta) (dNotV a) where
  run := by
    intro O F B H σ ρ Q Q' h q k
    refine i1.run h q fun x H1 B1 ρ1 d h1 g1 rx q1 => ?_
    cases rx with
    | bl c => exact ⟨c, rfl, k _ _ _ _ _ h1 g1 (.bl _) q1⟩
    | _ => exact q1.elim
def dIf (c : DT) (a b : DE) : DE := fun ρ Q => c ρ fun x ρ1 => if x = true then a ρ1 Q else b ρ1 Q
instance semIf (Tc : TT) (Ta Tb : TE) (c : DT) (a b : DE) [i0 : SemT Tc c] [i1 : SemE Ta a] [i2 : SemE Tb b] : SemE (tIf Tc Ta Tb) (dIf c a b) where
  run := by
    intro O F B H σ ρ Q Q' h q k
    refine i0.run h q fun x H1 B1 ρ1 h1 g1 q1 => ?_
    cases x with
    | true =>
      rw [if_pos rfl] at q1 ⊢
      exact i1.run h1 q1 fun b H2 B2 ρ2 d2 h2 g2 r2 q2 => k b H2 B2 ρ2 d2 h2 (g1.trans g2) r2 q2
    | false =>
      rw [if_neg Bool.false_ne_true] at q1 ⊢
      exact i2.run h1 q1 fun b H2 B2 ρ2 d2 h2 g2 r2 q2 => k b H2 B2 ρ2 d2 h2 (g1.trans g2) r2 q2

def dNil : DA := fun ρ Q => Q [] ρ
def dCons (a : DE) (r : DA) : DA := fun ρ Q => a ρ fun x ρ1 => r ρ1 fun xs ρ2 => Q (x :: xs) ρ2
instance semNil : SemA tNil dNil where
  run := fun h q k => k _ _ _ _ _ h .refl .nil q
instance semCons (Ta : TE) (Tr : TA) (a : DE) (r : DA) [i1 : SemE Ta a] [i2 : SemA Tr r] : SemA (tCons Ta Tr) (dCons a r) where
  run := fun h q k => i1.run h q fun x H1 B1 ρ1 dx h1 g1 rx q1 => i2.run h1 q1 fun y H2 B2 ρ2 dy h2 g2 ry q2 =>
    k _ _ _ _ _ h2 (g1.trans g2) (.cons (rx.up g2.ex) ry) q2
def dTup (a : DA) : DE := fun ρ Q => a ρ fun xs ρ1 => xs.length ≤ sizeLine ∧ Q (.tuple xs) ρ1
def dLst (a : DA) : DA := fun ρ Q => a ρ fun xs ρ1 => xs.length ≤ sizeLine ∧ Q xs ρ1
instance semTup (Ta : TA) (a : DA) [i1 : SemA Ta a] : SemE (tTup Ta) (dTup a) where
  run := fun h q k => i1.run h q fun xs H1 B1 ρ1 ds h1 g1 rx q1 => ⟨by rw [rx.length]; exact q1.1, fun p hp =>
    k _ _ _ _ _ (h1.new hp) (g1.trans (Gr.new h1 hp)) (.tup upd_same (rx.up (Ex.new (h1.eb.free hp)))) q1.2⟩
instance semLst (Ta : TA) (a : DA) [i1 : SemA Ta a] : SemN (tLst Ta) (dLst a) where
  run := fun h q k => i1.run h q fun xs H1 B1 ρ1 ds h1 g1 rx q1 => ⟨by rw [rx.length]; exact q1.1, fun p hp =>
    k p xs ds _ _ _ (h1.newO hp) g1 upd_same rx (h1.eb.free hp) (h1.ef.free hp) (fun o => h1.od p o hp) (h1.free_new hp) q1.2⟩
/-- a new list is shared at once -/
def dN (a : DA) : DE := fun ρ Q => a ρ fun xs ρ1 => Q (.list xs) ρ1
instance (priority := low) semNew (T : TE) (a : DA) [i1 : SemN T a] : SemE T (dN a) where
  run := fun h q k => i1.run h q fun p vs ds H1 B1 ρ1 h1 g1 hp rx nb nf no fr q1 => by
    have g : Gr _ B1 (upd B1 p (.lst vs)) := Gr.share nb no
    exact k _ _ _ _ _ (h1.share hp nb fr) (g1.trans g) (.lst upd_same (rx.up g.ex)) q1

def dNext : DS := fun D ρ => D.nx ρ
def dSeq (t u : DS) : DS := fun D ρ => t { D with nx := u D } ρ
instance semNext : SemS tNext dNext where
  run := fun h q e => e.nx h .refl q
instance semSeq (T U : TS) (t u : DS) [i1 : SemS T t] [i2 : SemS U u] : SemS (tSeq T U) (dSeq t u) where
  run := fun h q e => i1.run h q { nx := fun r g q => i2.run r q (e.mono g), bk := e.bk, ct := e.ct, rt := e.rt, rn := e.rn }
def dBreak : DS := fun D ρ => D.bk ρ
def dCont : DS := fun D ρ => D.ct ρ
instance semBreak : SemS tBreak dBreak where
  run := fun h q e => e.bk h .refl q
instance semCont : SemS tCont dCont where
  run := fun h q e => e.ct h .refl q
def dRet (a : DE) : DS := fun D ρ => a ρ D.rt
instance semRet (Ta : TE) (a : DE) [i1 : SemE Ta a] : SemS (tRet Ta) (dRet a) where
  run := fun h q e => i1.run h q fun v H1 B1 ρ1 d h1 g1 r1 q1 => e.rt h1 g1 r1 q1
def dRetL (a : DA) : DS := fun D ρ => a ρ D.rn
instance (priority := high) semRetL (Ta : TE) (a : DA) [i1 : SemN Ta a] : SemS (tRet Ta) (dRetL a) where
  run := fun h q e => i1.run h q fun p vs ds H1 B1 ρ1 h1 g1 hp rx nb nf no fr q1 => e.rn h1 g1 hp rx nb nf no fr q1
/-- a name given back: an own list is new -/
def dRetV (i : Nat) : DS := fun D ρ => match ρ[i]? with
  | some (.d x) => D.rt x ρ
  | some (.l xs) => D.rn xs (ρ.set i .no)
  | some (.k xs) => D.rt (.dict xs) (ρ.set i (.d (.dict xs)))
  | _ => False
instance (priority := high + 1) semRetV (i : Nat) : SemS (tRet (tVarF i)) (dRetV i) where
  run := by
    intro O F B H σ ρ D D' h q e
    unfold dRetV at q
    split at q
    · rename_i x es
      obtain ⟨o, e1, v, rfl, r⟩ := h.sl _ _ es
      exact ⟨v, e1, .inl (e.rt h .refl r q)⟩
    · rename_i xs es
      obtain ⟨o, e1, p, vs, rfl, hp, r, nb, nf, no⟩ := h.sl _ _ es
      have h1 : R O F B H σ (ρ.set i .no) := h.tell (fun _ _ => trivial) fun z => nomatch z
      exact ⟨.ref p, e1, .inl (e.rn h1 .refl hp r nb nf no (h.own_free es rfl e1 rfl) q)⟩
    · rename_i xs es
      obtain ⟨o, e1, p, vs, rfl, hp, r, nb, nf, no⟩ := h.sl _ _ es
      refine ⟨.ref p, e1, .inr ⟨p, _, rfl, hp, trivial, fun ob => ?_⟩⟩
      have g : Gr O B (upd B p (.frz ob (.dK vs))) := Gr.share nb no
      have r' : Rp (upd B p (.frz ob (.dK vs))) (.ref p) (.dict xs) := .dk upd_same (r.up g.ex)
      exact e.rt (h.lockup es rfl e1 hp nb nf r') g r' q
    · exact q.elim
def dRetN : DS := fun D ρ => D.rt .none ρ
instance semRetN : SemS tRetN dRetN where
  run := fun h q e => e.rt h .refl .non q
def dDrop (a : DE) : DS := fun D ρ => a ρ fun _ ρ1 => D.nx ρ1
instance semDrop (Ta : TE) (a : DE) [i1 : SemE Ta a] : SemS (tDrop Ta) (dDrop a) where
  run := fun h q e => i1.run h q fun v H1 B1 ρ1 d h1 g1 r1 q1 => e.nx h1 g1 q1
def dIfS (c : DT) (t u : DS) : DS := fun D ρ => c ρ fun x ρ1 => if x = true then t D ρ1 else u D ρ1
instance semIfS (Tc : TT) (T U : TS) (c : DT) (t u : DS) [i0 : SemT Tc c] [i1 : SemS T t] [i2 : SemS U u] : SemS (tIfS Tc T U) (dIfS c t u) where
  run := by
    intro O F B H σ ρ D D' h q e
    refine i0.run h q fun x H1 B1 ρ1 h1 g1 q1 => ?_
    cases x with
    | true =>
      rw [if_pos rfl] at q1 ⊢
      exact i1.run h1 q1 (e.mono g1)
    | false =>
      rw [if_neg Bool.false_ne_true] at q1 ⊢
      exact i2.run h1 q1 (e.mono g1)
def gSet (i : Nat) : DG := fun x ρ Q => Q (ρ.set i (.d x))
instance semName (i : Nat) : SemG (gName i) (gSet i) [i] where
  run := fun h r q k => k _ _ _ _ (h.set_d r) .refl ⟨by simp, fun j hj => List.getElem?_set_ne fun e => hj (by simp [e])⟩ q
def gdNil : DGs := fun xs ρ Q => match xs with
  | [] => Q ρ
  | _ => False
def gdCons (g : DG) (gs : DGs) : DGs := fun xs ρ Q => match xs with
  | x :: xs => g x ρ fun ρ1 => gs xs ρ1 Q
  | [] => False
instance semgNil : SemGs gNil gdNil [] where
  run := by
    intro O F B H σ ρ vs ds Q Q' h r q k
    cases r with
    | nil => exact ⟨rfl, k _ _ _ _ h .refl ⟨rfl, fun _ _ => rfl⟩ q⟩
    | cons a b => exact q.elim
instance semgCons (G : TG) (Gs : TGs) (g : DG) (gs : DGs) (l1 l2 : List Nat) [i1 : SemG G g l1] [i2 : SemGs Gs gs l2] : SemGs (gCons G Gs) (gdCons g gs) (l1 ++ l2) where
  run := by
    intro O F B H σ ρ vs ds Q Q' h r q k
    cases r with
    | nil => exact q.elim
    | cons a b => exact ⟨_, _, rfl, i1.run h a q fun σ1 H1 B1 ρ1 h1 g1 w1 q1 => i2.run h1 (b.up g1.ex) q1 fun σ2 H2 B2 ρ2 h2 g2 w2 q2 => k _ _ _ _ h2 (g1.trans g2)
      ⟨w2.len.trans w1.len, fun j hj => (w2.at_ j fun z => hj (List.mem_append_right _ z)).trans (w1.at_ j fun z => hj (List.mem_append_left _ z))⟩ q2⟩
/-- a tuple unpacked -/
def gTupD (n : Nat) (t : TGs) : TG := fun v σ H Q => ∃ a xs, v = .ref a ∧ H a = some (.tup xs) ∧ xs.length = n ∧ t xs σ H Q
theorem pg_tupD {X : Cx} {pos : Pos} {es : List Expr} {k : Nat} {t : TGs} {n : Nat} (hc : X.calm = true) (h : PGs X es t)
    (hn : (assignEach es X.env).length = n := by rfl) (hst : (assignEach es X.env).findIdx? (·.1) = none := by rfl) : PG X (.Tuple es k pos) (gTupD n t) :=
  ⟨fun pins s σ H v u Q I r ⟨a, xs, e1, e2, e3, q⟩ => (pg_tup hc h hn hst).run pins s σ H v u Q I r ⟨a, xs, e1, .of e2, e3, q⟩⟩
def gdTup (n : Nat) (gs : DGs) : DG := fun x ρ Q => match x with
  | .tuple xs => xs.length = n ∧ gs xs ρ Q
  | _ => False
instance semgTup (n : Nat) (Gs : TGs) (gs : DGs) (l : List Nat) [i2 : SemGs Gs gs l] : SemG (gTupD n Gs) (gdTup n gs) l where
  run := by
    intro O F B H σ ρ v d Q Q' h r q k
    cases r with
    | tup e rl => exact ⟨_, _, rfl, h.eb _ _ e, rl.length.trans q.1, i2.run h rl q.2 k⟩
    | _ => exact q.elim
def dAsg (a : DE) (g : DG) : DS := fun D ρ => a ρ fun x ρ1 => g x ρ1 D.nx
instance semAsg (Ta : TE) (G : TG) (a : DE) (g : DG) (l : List Nat) [i1 : SemE Ta a] [i2 : SemG G g l] : SemS (tAsg Ta G) (dAsg a g) where
  run := fun h q e => i1.run h q fun v H1 B1 ρ1 d h1 g1 r1 q1 => i2.run h1 r1 q1 fun σ2 H2 B2 ρ2 h2 g2 _ q2 => e.nx h2 (g1.trans g2) q2
/-- a name set to a new list: its own -/
def dAsgN (a : DA) (i : Nat) : DS := fun D ρ => a ρ fun xs ρ1 => D.nx (ρ1.set i (.l xs))
instance (priority := high) semAsgN (Ta : TE) (i : Nat) (a : DA) [i1 : SemN Ta a] : SemS (tAsg Ta (gName i)) (dAsgN a i) where
  run := fun h q e => i1.run h q fun p vs ds H1 B1 ρ1 h1 g1 hp rx nb nf no fr q1 =>
    e.nx (h1.set (s := .l ds) ⟨p, vs, rfl, hp, rx, nb, nf, no⟩ fun _ q e => by cases e; exact fr) g1 q1
def tDead : TS := fun _ _ _ => False
instance semDead : SemS tDead (fun _ _ => False) where
  run := fun _ q _ => q.elim
theorem ps_dead {X : Cx} {st : Stmt} : PS X st tDead := ⟨fun _ _ _ _ _ _ h => h.elim⟩
theorem pss_dead {X : Cx} {st : List Stmt} : PSs X st tDead := ⟨fun _ _ _ _ _ _ h => h.elim⟩
def tDeadE : TE := fun _ _ _ => False
instance semDeadE : SemE tDeadE (fun _ _ => False) where
  run := fun _ q _ => q.elim
theorem pe_dead {X : Cx} {e : Expr} : PE X e tDeadE := ⟨fun _ _ _ _ _ _ h => h.elim⟩
/-- two names at once -/
def dPar (i j : Nat) (a : DA) : DS := fun D ρ => a ρ fun xs ρ1 => match xs with
  | [x, y] => D.nx ((ρ1.set i (.d x)).set j (.d y))
  | _ => False
instance semPar (i j : Nat) (Ta : TA) (a : DA) [i1 : SemA Ta a] : SemS (tPar i j Ta) (dPar i j a) where
  run := fun h q e => i1.run h q fun vs H1 B1 ρ1 ds h1 g1 r1 q1 => by
    cases r1 with
    | nil => exact q1.elim
    | cons a r1 =>
      cases r1 with
      | nil => exact q1.elim
      | cons b r1 =>
        cases r1 with
        | nil => exact ⟨_, _, rfl, e.nx ((h1.set_d a).set_d b) g1 q1⟩
        | cons c r1 => exact q1.elim
def dPar3 (i j l : Nat) (a : DA) : DS := fun D ρ => a ρ fun xs ρ1 => match xs with
  | [x, y, z] => D.nx (((ρ1.set i (.d x)).set j (.d y)).set l (.d z))
  | _ => False
instance semPar3 (i j l : Nat) (Ta : TA) (a : DA) [i1 : SemA Ta a] : SemS (tPar3 i j l Ta) (dPar3 i j l a) where
  run := fun h q e => i1.run h q fun vs H1 B1 ρ1 ds h1 g1 r1 q1 => by
    cases r1 with
    | nil => exact q1.elim
    | cons a r1 =>
      cases r1 with
      | nil => exact q1.elim
      | cons b r1 =>
        cases r1 with
        | nil => exact q1.elim
        | cons c r1 =>
          cases r1 with
          | nil => exact ⟨_, _, _, rfl, e.nx (((h1.set_d a).set_d b).set_d c) g1 q1⟩
          | cons c r1 => exact q1.elim
end DL

namespace DL
open PySem PySem.Spec PyProof.Rows L2

structure JW (B : Hp) (J : It) (ds : List PyData) : Prop where
  go : ∀ (i : Nat) (H' : Hp), i < ds.length → Ex B H' → J.go i H'
  stop : ∀ (H' : Hp), Ex B H' → J.stop ds.length H'
  yld : ∀ (i : Nat) (H' : Hp) (x : V) (H2 : Hp), i < ds.length → Ex B H' → J.yld i H' x H2 → Ex H' H2 ∧ ∃ d, ds[i]? = some d ∧
    ∀ {O : Addr → Prop} {F : Hp} {σ : L2.St} {ρ : DEnv} {B' : Hp}, R O F B' H' σ ρ → Ex B B' → ∃ B2, R O F B2 H2 σ ρ ∧ Gr O B' B2 ∧ Rp B2 x d
theorem JW.mono {B B' : Hp} {J : It} {ds : List PyData} (h : JW B J ds) (e : Ex B B') : JW B' J ds :=
  ⟨fun i H' a b => h.go i H' a (e.trans b), fun H' b => h.stop H' (e.trans b), fun i H' x H2 a b c => by
    obtain ⟨e1, d, e2, f⟩ := h.yld i H' x H2 a (e.trans b) c
    exact ⟨e1, d, e2, fun r b' => f r (e.trans b')⟩⟩
/-- it gives what stands there already -/
theorem JW.plain {B : Hp} {J : It} {ds : List PyData} (go : ∀ (i : Nat) (H' : Hp), i < ds.length → Ex B H' → J.go i H') (stop : ∀ (H' : Hp), Ex B H' → J.stop ds.length H')
    (yld : ∀ (i : Nat) (H' : Hp) (x : V) (H2 : Hp), i < ds.length → Ex B H' → J.yld i H' x H2 → H2 = H' ∧ ∃ d, ds[i]? = some d ∧ Rp B x d) : JW B J ds :=
  ⟨go, stop, fun i H' x H2 a b c => by
    obtain ⟨rfl, d, e, r⟩ := yld i H' x H2 a b c
    exact ⟨Ex.refl _, d, e, fun {O F σ ρ B'} r' b' => ⟨B', r', .refl, r.up b'⟩⟩⟩
/-- it gives new pairs -/
theorem JW.pairs {B : Hp} {J : It} {ds : List PyData} (go : ∀ (i : Nat) (H' : Hp), i < ds.length → Ex B H' → J.go i H') (stop : ∀ (H' : Hp), Ex B H' → J.stop ds.length H')
    (yld : ∀ (i : Nat) (H' : Hp) (x : V) (H2 : Hp), i < ds.length → Ex B H' → J.yld i H' x H2 → ∃ T xs es, x = .ref T ∧ H' T = none ∧ H2 = upd H' T (.tup xs) ∧ ds[i]? = some (.tuple es) ∧ RpL B xs es) : JW B J ds :=
  ⟨go, stop, fun i H' x H2 a b c => by
    obtain ⟨T, xs, es, rfl, hT, rfl, e, r⟩ := yld i H' x H2 a b c
    exact ⟨Ex.new hT, _, e, fun {O F σ ρ B'} r' b' => ⟨_, r'.new hT, Gr.new r' hT, .tup upd_same (r.up (b'.trans (Ex.new (r'.eb.free hT))))⟩⟩⟩
class SemI (T : TI) (t : outParam DA) : Prop where
  run : ∀ {O : Addr → Prop} {F B H : Hp} {σ : L2.St} {ρ : DEnv} {Q : List PyData → DEnv → Prop} {Q' : It → Hp → Prop}, R O F B H σ ρ → t ρ Q →
    (∀ J H' B' ρ' ds, R O F B' H' σ ρ' → Gr O B B' → JW B' J ds → Q ds ρ' → Q' J H') → T σ H Q'
/-- a value walked: a list, a tuple, a text, a dict -/
def signs (x : Str) : List PyData := x.cps.toList.map fun c => .str ⟨#[c]⟩
def dItems : PyData → Option (List PyData)
  | .list xs => some xs
  | .tuple xs => some xs
  | .str x => some (signs x)
  | .dict kvs => some (kvs.map (·.1))
  | _ => none
def iAny (te : TE) : TI := fun σ H R => te σ H fun v H1 => (∃ a xs, v = .ref a ∧ H1 a = some (.lst xs) ∧ ∀ K, R (Itl K a) H1) ∨ (∃ a xs, v = .ref a ∧ H1 a = some (.tup xs) ∧ ∀ K, R (Itt K a) H1) ∨
  (∃ x, v = .str x ∧ R (Its x) H1) ∨ (∃ d o kvs, v = .ref d ∧ H1 d = some (.frz o (.dK kvs)) ∧ R (Itk d o kvs) H1) ∨ ∃ d o kvs, v = .ref d ∧ H1 d = some (.frz o (.dT kvs)) ∧ R (Itkt d o kvs) H1
/-- what a known value is walked by -/
structure PV (X : Cx) (e : Expr) (pins : List (Addr × Obj)) (σ : L2.St) (v : V) (H1 : Hp) (s s1 : Shared) (u : Value) : Prop where
  inv : Inv X pins σ H1 s1
  rel : RelV v u
theorem pi_any {X : Cx} {tg e : Expr} {te : TE} (he : PE X e te) : PI X tg e (iAny te) := by
  refine ⟨fun pins s σ H R I h => ?_⟩
  refine thn (he.run pins s σ H _ I h) fun u s1 hx => ?_
  obtain ⟨x, H1, I1, r1, q1⟩ := hx
  have fresh1 : ∀ b ∈ [s1.heap.objs.size], FpOk X pins H1 b := fun b hb => by
    rw [show b = s1.heap.objs.size by simpa using hb]
    exact I1.fpOk (Nat.le_refl _) I1.fresh
  rcases q1 with ⟨a, xs, rfl, hq, q⟩ | ⟨a, xs, rfl, hq, q⟩ | ⟨z, rfl, q⟩ | ⟨d, o, kvs, rfl, hd, q⟩ | ⟨d, o, kvs, rfl, hd, q⟩
  · cases r1
    obtain ⟨its, _, p, _⟩ := I1.list (SqL.of hq)
    exact wpAny_pyIter_list p.isList (pi_one (tk := s1.toks) I1 _ (turn_list a _) ⟨_, Heap.get?_push_size _ rfl, rfl, rfl⟩ (q X.K))
  · cases r1
    obtain ⟨its, _, p, _⟩ := I1.tuple (SqT.of hq)
    exact wpAny_pyIter_tuple p (pi_one (tk := s1.toks) I1 _ (turn_tuple a _) ⟨_, Heap.get?_push_size _ rfl, rfl, rfl⟩ (q X.K))
  · obtain ⟨t, rfl⟩ := r1
    by_cases ha : z.cps.all (· < 128) = true
    · exact wpAny_pyIter_ascii ha (pi_one (tk := s1.toks) I1 _ (turn_str _ z t _ (.inl rfl)) ⟨_, Heap.get?_push_size _ rfl, rfl, rfl⟩ q)
    · exact wpAny_pyIter_wide (by simpa using ha) (pi_one (tk := s1.toks) I1 _ (turn_str _ z t _ (.inr rfl)) ⟨_, Heap.get?_push_size _ rfl, rfl, rfl⟩ q)
  · obtain rfl : u = Value.ref d := r1
    obtain ⟨hs, hgd, hx, es, ep, vs, hdt, hsz, kv, hm⟩ := I1.frzK hd
    refine iter_keys hs hgd hx hdt (pi_one (tk := s1.toks) I1 _ (turn_keys _ hdt) ⟨_, Heap.get?_push_size _ rfl, rfl, ?_⟩ q)
    · rw [hsz] <;> rfl
  · obtain rfl : u = Value.ref d := r1
    obtain ⟨hs, hgd, hx, es, ep, hdt, hsz, ent⟩ := I1.frzT hd
    refine iter_keys hs hgd hx hdt (pi_one (tk := s1.toks) I1 _ (turn_keysT _ hdt) ⟨_, Heap.get?_push_size _ rfl, rfl, ?_⟩ q)
    · rw [hsz] <;> rfl
theorem rpk_keys {B : Hp} : ∀ {kvs : List (Key × V)} {ds : List (PyData × PyData)}, RpK B kvs ds → kvs.length = ds.length ∧ ∀ (i : Nat) k v, kvs[i]? = some (k, v) → (ds.map (·.1))[i]? = some (kD k)
  | [], _, h => by cases h; exact ⟨rfl, fun i k v e => by simp at e⟩
  | (k0, v0) :: kvs, _, h => by
    cases h with
    | cons a r =>
      obtain ⟨h1, h2⟩ := rpk_keys r
      refine ⟨by simp [h1], fun i k v e => ?_⟩
      cases i with
      | zero => simp at e; obtain ⟨rfl, rfl⟩ := e; rfl
      | succ i => simpa using h2 i k v (by simpa using e)
theorem rpt_keys {B : Hp} : ∀ {kvs : List (List Key × V)} {ds : List (PyData × PyData)}, RpT B kvs ds → kvs.length = ds.length ∧ ∀ (i : Nat) k v, kvs[i]? = some (k, v) → (ds.map (·.1))[i]? = some (.tuple (k.map kD))
  | [], _, h => by cases h; exact ⟨rfl, fun i k v e => by simp at e⟩
  | (k0, v0) :: kvs, _, h => by
    cases h with
    | cons a r =>
      obtain ⟨h1, h2⟩ := rpt_keys r
      refine ⟨by simp [h1], fun i k v e => ?_⟩
      cases i with
      | zero => simp at e; obtain ⟨rfl, rfl⟩ := e; rfl
      | succ i => simpa using h2 i k v (by simpa using e)
theorem rp_kV {B : Hp} (k : Key) : Rp B (kV k) (kD k) := by
  cases k with
  | inl i => exact .int i
  | inr x => exact .str x
theorem rpl_kV {B : Hp} : ∀ ks : List Key, RpL B (ks.map kV) (ks.map kD)
  | [] => .nil
  | k :: ks => .cons (rp_kV k) (rpl_kV ks)
def dAny (a : DE) : DA := fun ρ Q => a ρ fun x ρ1 => match dItems x with
  | some ds => Q ds ρ1
  | none => False
instance semAny (Te : TE) (a : DE) [i1 : SemE Te a] : SemI (iAny Te) (dAny a) where
  run := by
    intro O F B H σ ρ Q Q' h q k
    refine i1.run h q fun v H1 B1 ρ1 d h1 g1 rx q1 => ?_
    cases rx with
    | @lst a xs ds e r =>
      refine .inl ⟨a, xs, rfl, h1.eb _ _ e, fun K => k _ _ B1 ρ1 ds h1 g1 (JW.plain (fun i H' hi b => ?_) (fun H' b => ?_) fun i H' x H2 hi b y => ?_) q1⟩
      · exact ⟨xs, xs[i]'(by rw [r.length]; exact hi), .of (b _ _ e), by simp⟩
      · exact ⟨xs, .of (b _ _ e), by rw [r.length]; exact Nat.le_refl _⟩
      · have ex := y.2 xs (.of (b _ _ e))
        obtain ⟨d, e2, r2⟩ := r.get' ex
        exact ⟨y.1, d, e2, r2⟩
    | @tup a xs ds e r =>
      refine .inr (.inl ⟨a, xs, rfl, h1.eb _ _ e, fun K => k _ _ B1 ρ1 ds h1 g1 (JW.plain (fun i H' hi b => ?_) (fun H' b => ?_) fun i H' x H2 hi b y => ?_) q1⟩)
      · exact ⟨xs, xs[i]'(by rw [r.length]; exact hi), .of (b _ _ e), by simp⟩
      · exact ⟨xs, .of (b _ _ e), by rw [r.length]; exact Nat.le_refl _⟩
      · have ex := y.2 xs (.of (b _ _ e))
        obtain ⟨d, e2, r2⟩ := r.get' ex
        exact ⟨y.1, d, e2, r2⟩
    | str z =>
      refine .inr (.inr (.inl ⟨z, rfl, k _ _ B1 ρ1 (signs z) h1 g1 (JW.plain (fun i H' hi b => ?_) (fun H' b => ?_) fun i H' x H2 hi b y => ?_) q1⟩))
      · have : i < z.cps.size := by simpa [signs] using hi
        exact this
      · show z.cps.size ≤ (signs z).length
        simp [signs]
      · obtain ⟨e, c, e2, e3⟩ := y
        refine ⟨e, .str ⟨#[c]⟩, ?_, by rw [e3]; exact .str _⟩
        have e4 : z.cps.toList[i]? = some c := by rw [Array.getElem?_toList]; exact e2
        simp [signs, e2]
    | @dk d o kvs ds e r =>
      obtain ⟨hl, hk⟩ := rpk_keys r
      have q1 : Q (ds.map fun p => p.1) ρ1 := q1
      refine .inr (.inr (.inr (.inl ⟨d, o, kvs, rfl, h1.eb _ _ e, k _ _ B1 ρ1 (ds.map (·.1)) h1 g1 (JW.plain (fun i H' hi b => ?_) (fun H' b => ?_) fun i H' x H2 hi b y => ?_) q1⟩)))
      · exact ⟨b _ _ e, by rw [hl]; simpa using hi⟩
      · exact ⟨b _ _ e, by rw [hl]; simp⟩
      · obtain ⟨e1, kk, v, e2, e3⟩ := y
        exact ⟨e1, kD kk, hk i kk v e2, by rw [e3]; exact rp_kV kk⟩
    | @dt d o kvs ds e r =>
      obtain ⟨hl, hk⟩ := rpt_keys r
      have q1 : Q (ds.map fun p => p.1) ρ1 := q1
      refine .inr (.inr (.inr (.inr ⟨d, o, kvs, rfl, h1.eb _ _ e, k _ _ B1 ρ1 (ds.map (·.1)) h1 g1 ⟨fun i H' hi b => ?_, fun H' b => ?_, fun i H' x H2 hi b y => ?_⟩ q1⟩)))
      · exact ⟨b _ _ e, by rw [hl]; simpa using hi⟩
      · exact ⟨b _ _ e, by rw [hl]; simp⟩
      · obtain ⟨e1, kk, v, p, e2, e3, e4⟩ := y
        subst e1
        refine ⟨Ex.refl _, .tuple (kk.map kD), hk i kk v e2, fun {O F σ ρ B'} r' b' => ?_⟩
        rw [e3]
        cases hb : B' p with
        | some o' =>
          have := r'.eb _ _ hb
          rw [e4] at this
          cases this
          exact ⟨B', r', .refl, .tup hb (rpl_kV kk)⟩
        | none =>
          have nf : Free σ ρ p := fun j u ej uo es => by
            obtain ⟨o', e5, e6⟩ := r'.sl j u ej
            rw [es] at e5
            cases e5
            cases u with
            | no => cases uo
            | d x => cases uo
            | v a u => cases uo
            | l xs => obtain ⟨q, vs, e7, e8, _⟩ := e6; cases e7; rw [e4] at e8; cases e8
            | g xs => obtain ⟨q, vs, e7, e8, _⟩ := e6; cases e7; rw [e4] at e8; cases e8
            | k xs => obtain ⟨q, vs, e7, e8, _⟩ := e6; cases e7; rw [e4] at e8; cases e8
          refine ⟨_, r'.share e4 hb nf, ⟨Ex.new hb, fun q hq => ?_⟩, .tup upd_same (rpl_kV kk)⟩
          by_cases z : q = p
          · subst z; exact .inr ⟨_, upd_same⟩
          · exact .inl (upd_ne z)
    | _ => exact q1.elim
end DL

namespace DL
open PySem PySem.Spec PyProof.Rows L2

def rng (lo hi : Int) : List PyData := (List.range (hi - lo).toNat).map fun i => .int (lo + (i : Nat))
theorem jw_range {B : Hp} (lo : Int) (n : Nat) : JW B (Itr lo n) ((List.range n).map fun i => PyData.int (lo + (i : Nat))) :=
  JW.plain (fun i H' hi _ => by show i < n; simpa using hi) (fun H' _ => by show n ≤ _; simp) fun i H' x H2 hi _ y => by
    obtain ⟨e, e2⟩ := y
    have hn : i < n := by simpa using hi
    exact ⟨e, .int (lo + (i : Nat)), by simp [hn], by rw [e2]; exact .int _⟩
def dRng1 (a : DA) : DA := fun ρ Q => a ρ fun xs ρ1 => match xs with
  | [.int j] => (-(2 ^ 62) ≤ j ∧ j < 2 ^ 62) ∧ Q (rng 0 j) ρ1
  | _ => False
def dRng2 (a : DA) : DA := fun ρ Q => a ρ fun xs ρ1 => match xs with
  | [.int i, .int j] => (-(2 ^ 62) ≤ i ∧ i < 2 ^ 62 ∧ -(2 ^ 62) ≤ j ∧ j < 2 ^ 62) ∧ Q (rng i j) ρ1
  | _ => False
theorem rpl_int1 {B : Hp} {vs : List V} {i : Int} (h : RpL B vs [.int i]) : vs = [.int i] := by
  cases h with
  | cons a r => cases a; cases r; rfl
theorem rpl_int2 {B : Hp} {vs : List V} {i j : Int} (h : RpL B vs [.int i, .int j]) : vs = [.int i, .int j] := by
  cases h with
  | cons a r => cases a; rw [rpl_int1 r]
instance semRng1 (Ta : TA) (a : DA) [i1 : SemA Ta a] : SemI (iRng1 Ta) (dRng1 a) where
  run := by
    intro O F B H σ ρ Q Q' h q k
    refine i1.run h q fun vs H1 B1 ρ1 ds h1 g1 r1 q1 => ?_
    split at q1
    · rename_i j
      obtain ⟨⟨b1, b2⟩, q1⟩ := q1
      refine ⟨j, rpl_int1 r1, b1, b2, k _ _ _ _ _ h1 g1 (jw_range 0 j.toNat) ?_⟩
      have e : rng 0 j = (List.range j.toNat).map fun i => PyData.int (0 + (i : Nat)) := by unfold rng; rw [Int.sub_zero]
      rw [← e]; exact q1
    · exact q1.elim
instance semRng2 (Ta : TA) (a : DA) [i1 : SemA Ta a] : SemI (iRng2 Ta) (dRng2 a) where
  run := by
    intro O F B H σ ρ Q Q' h q k
    refine i1.run h q fun vs H1 B1 ρ1 ds h1 g1 r1 q1 => ?_
    split at q1
    · rename_i i j
      obtain ⟨bb, q1⟩ := q1
      exact ⟨i, j, rpl_int2 r1, bb, k _ _ _ _ _ h1 g1 (jw_range i (j - i).toNat) q1⟩
    · exact q1.elim
def iEnumD (ta : TA) : TI := fun σ H R => ta σ H fun vs H1 => ∃ a xs, vs = [.ref a] ∧ H1 a = some (.lst xs) ∧ ∀ K, R (Ite K a) H1
def iZipD (ta : TA) : TI := fun σ H R => ta σ H fun vs H1 => ∃ a b xs ys, vs = [.ref a, .ref b] ∧ ((H1 a = some (.lst xs) ∧ H1 b = some (.lst ys) ∧ ∀ K, R (Itz K a b) H1) ∨ (H1 a = some (.tup xs) ∧ H1 b = some (.tup ys) ∧ ∀ K, R (RZ.ItzT K a b) H1))
/-- a reading closed upwards -/
def tMA (t : TA) : TA := fun σ H Q => ∃ Q0, t σ H Q0 ∧ ∀ v H', Q0 v H' → Q v H'
theorem pa_M {X : Cx} {es : List Expr} {t : TA} (h : PA X es t) : PA X es (tMA t) := ⟨fun pos pins s σ H Q I ⟨Q0, h0, k⟩ =>
  thn (h.run pos pins s σ H Q0 I h0) fun us s1 ⟨vs, H1, I1, r, q⟩ => ⟨vs, H1, I1, r, k _ _ q⟩⟩
def tME (t : TE) : TE := fun σ H Q => ∃ Q0, t σ H Q0 ∧ ∀ v H', Q0 v H' → Q v H'
theorem pe_M {X : Cx} {e : Expr} {t : TE} (h : PE X e t) : PE X e (tME t) := ⟨fun pins s σ H Q I ⟨Q0, h0, k⟩ =>
  thn (h.run pins s σ H Q0 I h0) fun us s1 ⟨vs, H1, I1, r, q⟩ => ⟨vs, H1, I1, r, k _ _ q⟩⟩
theorem pi_enumD {X : Cx} {e : Expr} {ta : TA} {p pos tpos : Pos} {elts : List Expr} {kk : Nat} (hg : Gl X "enumerate") (hm : X.mg "enumerate" = none) (ha : PA X [e] ta) (hs : starEach [e] X.env = [(false, eval e X.env)] := by rfl) :
    PI X (.Tuple elts kk tpos) (.Call (.Name "enumerate" p) [e] [] pos) (iEnumD ta) :=
  ⟨fun pins s σ H R I h => (pi_enum hg hm (pa_M ha) hs).run pins s σ H R I ⟨_, h, fun v H' ⟨a, xs, e1, e2, q⟩ => ⟨a, xs, e1, .of e2, q X.K⟩⟩⟩
theorem pi_zipD {X : Cx} {e e2 : Expr} {ta : TA} {p pos tpos : Pos} {elts : List Expr} {kk : Nat} (hg : Gl X "zip") (hm : X.mg "zip" = none) (ha : PA X [e, e2] ta)
    (hs : starEach [e, e2] X.env = (false, eval e X.env) :: starEach [e2] X.env := by rfl) (hpl : (backTo pos (starEach [e2] X.env)).any (·.1) = false := by rfl) :
    PI X (.Tuple elts kk tpos) (.Call (.Name "zip" p) [e, e2] [] pos) (iZipD ta) :=
  ⟨fun pins s σ H R I h => (RZ.pi_zipA hg hm (pa_M ha) hs hpl).run pins s σ H R I ⟨_, h, fun v H' ⟨a, b, xs, ys, e1, q⟩ => ⟨a, b, xs, ys, e1, q.elim (fun ⟨h1, h2, q⟩ => .inl ⟨.of h1, .of h2, q X.K⟩) fun ⟨h1, h2, q⟩ => .inr ⟨.of h1, .of h2, q X.K⟩⟩⟩⟩
def enumD (xs : List PyData) : List PyData := (List.range xs.length).map fun (i : Nat) => .tuple [.int (i : Int), xs.getD i .none]
def zipD : List PyData → List PyData → List PyData
  | x :: xs, y :: ys => .tuple [x, y] :: zipD xs ys
  | _, _ => []
theorem zipD_length : ∀ xs ys : List PyData, (zipD xs ys).length = min xs.length ys.length
  | [], ys => by simp [zipD]
  | x :: xs, [] => by simp [zipD]
  | x :: xs, y :: ys => by simp [zipD, zipD_length xs ys]
theorem zipD_get : ∀ (xs ys : List PyData) (i : Nat) (x y : PyData), xs[i]? = some x → ys[i]? = some y → (zipD xs ys)[i]? = some (.tuple [x, y])
  | [], ys, i, x, y, h, _ => by simp at h
  | a :: xs, [], i, x, y, _, h => by simp at h
  | a :: xs, b :: ys, 0, x, y, h, g => by simp at h g; subst h g; rfl
  | a :: xs, b :: ys, i + 1, x, y, h, g => by simpa [zipD] using zipD_get xs ys i x y (by simpa using h) (by simpa using g)
def dEnum (a : DA) : DA := fun ρ Q => a ρ fun xs ρ1 => match xs with
  | [.list ds] => Q (enumD ds) ρ1
  | _ => False
def dZip (a : DA) : DA := fun ρ Q => a ρ fun xs ρ1 => match xs with
  | [.list ds, .list es] => Q (zipD ds es) ρ1
  | [.tuple ds, .tuple es] => Q (zipD ds es) ρ1
  | _ => False
instance semEnum (Ta : TA) (a : DA) [i1 : SemA Ta a] : SemI (iEnumD Ta) (dEnum a) where
  run := by
    intro O F B H σ ρ Q Q' h q k
    refine i1.run h q fun vs H1 B1 ρ1 ds h1 g1 r1 q1 => ?_
    split at q1
    · rename_i ds
      cases r1 with
      | cons a r1 =>
        cases r1
        cases a with
        | @lst a xs _ e r =>
          refine ⟨a, xs, rfl, h1.eb _ _ e, fun K => k _ _ _ _ _ h1 g1 (JW.pairs (fun i H' hi b => ?_) (fun H' b => ?_) fun i H' x H2 hi b y => ?_) q1⟩
          · have hi' : i < xs.length := by rw [r.length]; simpa [enumD] using hi
            exact ⟨xs, xs[i], .of (b _ _ e), by simp [hi']⟩
          · exact ⟨xs, .of (b _ _ e), by rw [r.length]; simp [enumD]⟩
          · obtain ⟨T, x, e1, e2, e3, e4⟩ := y
            have ex := e4 xs (.of (b _ _ e))
            obtain ⟨d, e5, r2⟩ := r.get' ex
            refine ⟨T, [.int (i : Nat), x], [.int (i : Nat), d], e1, e2, e3, ?_, .cons (.int _) (.one r2)⟩
            have hi' : i < ds.length := by simpa [enumD] using hi
            have e6 : ds.getD i PyData.none = d := by rw [List.getD_eq_getElem?_getD, e5]; rfl
            unfold enumD
            rw [List.getElem?_map, List.getElem?_range hi']
            show some (PyData.tuple [PyData.int (i : Int), ds.getD i PyData.none]) = _
            rw [e6]
    · exact q1.elim
instance semZip (Ta : TA) (a : DA) [i1 : SemA Ta a] : SemI (iZipD Ta) (dZip a) where
  run := by
    intro O F B H σ ρ Q Q' h q k
    refine i1.run h q fun vs H1 B1 ρ1 ds h1 g1 r1 q1 => ?_
    split at q1
    · rename_i ds es
      cases r1 with
      | cons a r1 =>
        cases r1 with
        | cons b r1 =>
          cases r1
          cases a with
          | @lst a xs _ e r =>
            cases b with
            | @lst b ys _ e' r' =>
              refine ⟨a, b, xs, ys, rfl, .inl ⟨h1.eb _ _ e, h1.eb _ _ e', fun K => k _ _ _ _ _ h1 g1 (JW.pairs (fun i H' hi bb => ?_) (fun H' bb => ?_) fun i H' x H2 hi bb y => ?_) q1⟩⟩
              · rw [zipD_length] at hi
                exact (walk_zip (K := K) (a := a) (b := b) (xs := xs) (ys := ys) rfl).goes i H' (by rw [r.length, r'.length]; exact hi) ⟨.of (bb _ _ e), .of (bb _ _ e')⟩
              · rw [zipD_length, ← r.length, ← r'.length]
                exact (walk_zip (K := K) (a := a) (b := b) (xs := xs) (ys := ys) rfl).stops H' ⟨.of (bb _ _ e), .of (bb _ _ e')⟩
              · rw [zipD_length] at hi
                obtain ⟨T, x1, x2, e1, e2, e3, e4, e5⟩ := (walk_zip (K := K) (a := a) (b := b) (xs := xs) (ys := ys) rfl).yields i H' x H2 (by rw [r.length, r'.length]; exact hi) ⟨.of (bb _ _ e), .of (bb _ _ e')⟩ y
                obtain ⟨d1, f1, s1⟩ := r.get' e4
                obtain ⟨d2, f2, s2⟩ := r'.get' e5
                exact ⟨T, [x1, x2], [d1, d2], e1, e2, e3, zipD_get _ _ _ _ _ f1 f2, .cons s1 (.one s2)⟩
    · rename_i ds es
      cases r1 with
      | cons a r1 =>
        cases r1 with
        | cons b r1 =>
          cases r1
          cases a with
          | @tup a xs _ e r =>
            cases b with
            | @tup b ys _ e' r' =>
              refine ⟨a, b, xs, ys, rfl, .inr ⟨h1.eb _ _ e, h1.eb _ _ e', fun K => k _ _ _ _ _ h1 g1 (JW.pairs (fun i H' hi bb => ?_) (fun H' bb => ?_) fun i H' x H2 hi bb y => ?_) q1⟩⟩
              · rw [zipD_length] at hi
                have hx : i < xs.length := by rw [r.length]; omega
                have hy : i < ys.length := by rw [r'.length]; omega
                exact ⟨xs, ys, xs[i], ys[i], .of (bb _ _ e), .of (bb _ _ e'), by simp [hx], by simp [hy]⟩
              · rw [zipD_length, ← r.length, ← r'.length]
                exact ⟨xs, ys, .of (bb _ _ e), .of (bb _ _ e'), by omega⟩
              · obtain ⟨T, x1, x2, e1, e2, e3, e4, e5⟩ := y
                obtain ⟨d1, f1, s1⟩ := r.get' (e4 xs (.of (bb _ _ e)))
                obtain ⟨d2, f2, s2⟩ := r'.get' (e5 ys (.of (bb _ _ e')))
                exact ⟨T, [x1, x2], [d1, d2], e1, e2, e3, zipD_get _ _ _ _ _ f1 f2, .cons s1 (.one s2)⟩
    · exact q1.elim

def forGo (g : DG) (t : DS) (D : DEnds) : List PyData → DEnv → Prop
  | [], ρ => D.nx ρ
  | x :: xs, ρ => g x ρ fun ρ1 => t { nx := forGo g t D xs, ct := forGo g t D xs, bk := D.nx, rt := D.rt, rn := D.rn } ρ1
def dFor (a : DA) (g : DG) (t : DS) : DS := fun D ρ => a ρ fun ds ρ1 => forGo g t D ds ρ1
instance semFor (Wi : TI) (G : TG) (Tb : TS) (a : DA) (g : DG) (sl : List Nat) (t : DS) [i1 : SemI Wi a] [i2 : SemG G g sl] [i3 : SemS Tb t] : SemS (tFor Wi G Tb) (dFor a g t) where
  run := by
    intro O F B H σ ρ D D' h q e
    refine i1.run h q fun J H1 B1 ρ1 ds h1 g1 jw q1 => ?_
    have e1 := e.mono g1
    refine ⟨fun i m σ' H' => m = ds.length - i ∧ i ≤ ds.length ∧ ∃ B' ρ', R O F B' H' σ' ρ' ∧ Gr O B1 B' ∧ forGo g t D (ds.drop i) ρ', ⟨_, rfl, Nat.zero_le _, B1, ρ1, h1, .refl, q1⟩, ?_⟩
    rintro i m σ' H' ⟨rfl, hi, B2, ρ2, h2, g2, q2⟩
    by_cases hl : i < ds.length
    · refine .inr ⟨jw.go i H' hl (g2.ex.trans h2.eb), fun σ3 H3 => ∃ B' ρ', R O F B' H3 σ3 ρ' ∧ Gr O B1 B' ∧ forGo g t D (ds.drop (i + 1)) ρ', fun σ3 H3 hx => ⟨ds.length - (i + 1), by omega, rfl, hl, hx⟩, fun x H3 y => ?_⟩
      obtain ⟨_, d, ed, mk⟩ := jw.yld i H' x H3 hl (g2.ex.trans h2.eb) y
      obtain ⟨B3, h3, g3, r3⟩ := mk h2 g2.ex
      have dr : ds.drop i = d :: ds.drop (i + 1) := by
        have := List.drop_eq_getElem_cons hl
        rw [List.getElem?_eq_getElem hl] at ed
        rw [this, Option.some.inj ed]
      rw [dr] at q2
      refine i2.run h3 r3 q2 fun σ4 H4 B4 ρ4 h4 g4 _ q4 => ?_
      refine i3.run h4 q4 ⟨fun r gg q => ⟨_, _, r, ((g2.trans g3).trans g4).trans gg, q⟩, fun r gg q => e1.nx r (((g2.trans g3).trans g4).trans gg) q, fun r gg q => ⟨_, _, r, ((g2.trans g3).trans g4).trans gg, q⟩,
        fun r gg rv q => e1.rt r (((g2.trans g3).trans g4).trans gg) rv q, fun r gg a b c d' f s q => e1.rn r (((g2.trans g3).trans g4).trans gg) a b c d' f s q⟩
    · have hd : ds.drop i = [] := List.drop_eq_nil_of_le (by omega)
      have he : i = ds.length := by omega
      rw [hd] at q2
      subst he
      exact .inl ⟨jw.stop H' (g2.ex.trans h2.eb), e1.nx h2 g2 q2⟩
def whGo (c : DT) (t : DS) (D : DEnds) : Nat → DEnv → Prop
  | 0, _ => False
  | n + 1, ρ => c ρ fun b ρ1 => if b = true then t { nx := whGo c t D n, ct := whGo c t D n, bk := D.nx, rt := D.rt, rn := D.rn } ρ1 else D.nx ρ1
def dWhile (c : DT) (t : DS) : DS := fun D ρ => ∃ n, whGo c t D n ρ
instance semWhile (Tc : TT) (Tb : TS) (c : DT) (t : DS) [i1 : SemT Tc c] [i2 : SemS Tb t] : SemS (tWhile Tc Tb) (dWhile c t) where
  run := by
    intro O F B H σ ρ D D' h q e
    obtain ⟨n0, q0⟩ := q
    refine ⟨fun n σ' H' => ∃ B' ρ', R O F B' H' σ' ρ' ∧ Gr O B B' ∧ whGo c t D n ρ', ⟨n0, B, ρ, h, .refl, q0⟩, ?_⟩
    rintro n σ' H' ⟨B1, ρ1, h1, g1, q1⟩
    cases n with
    | zero => exact q1.elim
    | succ n =>
      refine i1.run h1 q1 fun b H2 B2 ρ2 h2 g2 q2 => ?_
      cases b with
      | true =>
        rw [if_pos rfl] at q2 ⊢
        refine ⟨fun σ3 H3 => ∃ B' ρ', R O F B' H3 σ3 ρ' ∧ Gr O B B' ∧ whGo c t D n ρ', fun σ3 H3 hx => ⟨n, Nat.lt_succ_self n, hx⟩, ?_⟩
        exact i2.run h2 q2 ⟨fun r gg q => ⟨_, _, r, (g1.trans g2).trans gg, q⟩, fun r gg q => e.nx r ((g1.trans g2).trans gg) q, fun r gg q => ⟨_, _, r, (g1.trans g2).trans gg, q⟩,
          fun r gg rv q => e.rt r ((g1.trans g2).trans gg) rv q, fun r gg a b c d' f s q => e.rn r ((g1.trans g2).trans gg) a b c d' f s q⟩
      | false =>
        rw [if_neg Bool.false_ne_true] at q2 ⊢
        exact e.nx h2 (g1.trans g2) q2

def keepS : Sl → Sl
  | .d x => .d x
  | .v a u => .v a u
  | _ => .no
def wipeD (ρ : DEnv) : List Nat → DEnv
  | [] => ρ
  | v :: vs => (wipeD ρ vs).set v .no
def backD (ρ ρ' : DEnv) : List Nat → DEnv
  | [] => ρ'
  | v :: vs => (backD ρ ρ' vs).set v (match ρ[v]? with
    | some s => keepS s
    | none => .no)
theorem backD_length (ρ ρ' : DEnv) : ∀ vs, (backD ρ ρ' vs).length = ρ'.length
  | [] => rfl
  | v :: vs => by unfold backD; rw [List.length_set, backD_length ρ ρ' vs]
theorem backD_in {ρ ρ' : DEnv} {j : Nat} {s : Sl} : ∀ {vs : List Nat}, (backD ρ ρ' vs)[j]? = some s → (j ∈ vs ∧ (s = .no ∨ ∃ t, ρ[j]? = some t ∧ s = keepS t)) ∨ (j ∉ vs ∧ ρ'[j]? = some s)
  | [], h => .inr ⟨by simp, h⟩
  | v :: vs, h => by
    unfold backD at h
    rcases getElem?_set_cases h with ⟨rfl, e⟩ | ⟨ne, h⟩
    · refine .inl ⟨by simp, ?_⟩
      split at e
      · rename_i s' e'; exact .inr ⟨s', e', e⟩
      · exact .inl e
    · rcases backD_in h with ⟨a, b⟩ | ⟨a, b⟩
      · exact .inl ⟨List.mem_cons_of_mem _ a, b⟩
      · exact .inr ⟨by simp only [List.mem_cons, not_or]; exact ⟨fun e => ne e.symm, a⟩, b⟩
section
variable {O : Addr → Prop} {F B H B' H' : Hp} {σ σ2 : L2.St} {ρ ρ2 : DEnv}
theorem R.wipe (h : R O F B H σ ρ) : ∀ vs : List Nat, R O F B H (wipe σ vs) (wipeD ρ vs)
  | [] => h
  | v :: vs => (h.wipe vs).drop
theorem R.back (h : R O F B H σ ρ) (h2 : R O F B' H' σ2 ρ2) (b : Ex B B') (hl : σ2.length = σ.length) {vs : List Nat} (hs : ∀ j, j ∉ vs → σ2[j]? = σ[j]?) : R O F B' H' σ (backD ρ ρ2 vs) where
  eb := h2.eb
  ef := h2.ef
  fo := h2.fo
  od := h2.od
  len := by rw [backD_length, ← hl, h2.len]
  sl := fun j s e => by
    have hj : j < σ.length := by
      have := (List.getElem?_eq_some_iff.mp e).1
      rw [backD_length, ← h2.len, hl] at this
      exact this
    rcases backD_in e with ⟨_, e'⟩ | ⟨nj, e'⟩
    · rcases e' with rfl | ⟨t, e', rfl⟩
      · exact ⟨_, List.getElem?_eq_getElem hj, trivial⟩
      · obtain ⟨o, h3, h4⟩ := h.sl j t e'
        refine ⟨o, h3, ?_⟩
        cases t with
        | d x => obtain ⟨v, e, r⟩ := h4; exact ⟨v, e, r.up b⟩
        | v a u => exact h4
        | _ => trivial
    · obtain ⟨o, h3, h4⟩ := h2.sl j s e'
      exact ⟨o, by rw [← hs j nj]; exact h3, h4⟩
  sep := fun i j si sj p ei ej oi oj e1 e2 => by
    have go : ∀ {i : Nat} {si : Sl}, (backD ρ ρ2 vs)[i]? = some si → si.own = true → ρ2[i]? = some si ∧ i ∉ vs := fun {i si} e o => by
      rcases backD_in e with ⟨_, e'⟩ | ⟨nj, e'⟩
      · rcases e' with rfl | ⟨t, e', rfl⟩
        · cases o
        · cases t <;> cases o
      · exact ⟨e', nj⟩
    obtain ⟨f1, n1⟩ := go ei oi
    obtain ⟨f2, n2⟩ := go ej oj
    exact h2.sep i j si sj p f1 f2 oi oj (by rw [hs i n1]; exact e1) (by rw [hs j n2]; exact e2)
/-- a cell guarded while something runs -/
theorem R.guard (h : R O F B H σ ρ) {D : Addr} {o : HO} (hD : H D = some o) (f : Free σ ρ D) : R (fun p => O p ∨ p = D) (upd F D o) B H σ ρ where
  eb := h.eb
  ef := h.ef.up2 hD
  fo := fun p hp => by
    by_cases e : p = D
    · exact .inr e
    · rw [upd_ne e] at hp; exact .inl (h.fo p hp)
  od := fun p hp => by
    rcases hp with hp | rfl
    · exact h.od p hp
    · rw [hD]; exact fun z => nomatch z
  len := h.len
  sl := fun i s e => by
    obtain ⟨o', h1, h2⟩ := h.sl i s e
    refine ⟨o', h1, ?_⟩
    cases s with
    | no => trivial
    | d x => exact h2
    | v a u =>
      refine ⟨h2.1, fun z hz => ?_⟩
      have e5 := h2.2 z hz
      by_cases ne : a = D
      · subst ne
        rw [upd_same]
        have := h.ef _ _ e5
        rw [hD] at this
        exact this
      · rw [upd_ne ne]; exact e5
    | l xs =>
      obtain ⟨q, vs, e1, e2, r, n1, n2, n3⟩ := h2
      have nq : q ≠ D := fun z => f i _ e rfl (by rw [h1, e1, z])
      exact ⟨q, vs, e1, e2, r, n1, by rw [upd_ne nq]; exact n2, fun z => z.elim n3 nq⟩
    | g xs =>
      obtain ⟨q, vs, e1, e2, r, n1, n2, n3⟩ := h2
      have nq : q ≠ D := fun z => f i _ e rfl (by rw [h1, e1, z])
      exact ⟨q, vs, e1, e2, r, n1, by rw [upd_ne nq]; exact n2, .inl n3⟩
    | k xs =>
      obtain ⟨q, vs, e1, e2, r, n1, n2, n3⟩ := h2
      have nq : q ≠ D := fun z => f i _ e rfl (by rw [h1, e1, z])
      exact ⟨q, vs, e1, e2, r, n1, by rw [upd_ne nq]; exact n2, fun z => z.elim n3 nq⟩
  sep := h.sep
theorem R.unguard {D : Addr} {o o' : HO} (h : R (fun p => O p ∨ p = D) (upd F D o) B H σ ρ) (nf : F D = none) (nb : B D = none) (ho : ∀ a xs, o ≠ .frz a xs) : R O F B (upd H D o') σ ρ ∧ Free σ ρ D := by
  have fd : ∀ (i : Nat) (s : Sl) (q : Addr), ρ[i]? = some s → s.own = true → σ[i]? = some (some (.ref q)) → q ≠ D := fun i s q e so es z => by
    obtain ⟨o2, h1, h2⟩ := h.sl i s e
    rw [es] at h1
    cases h1
    cases s with
    | no => cases so
    | d x => cases so
    | v a u => cases so
    | l xs => obtain ⟨q', vs, e1, e2, r, n1, n2, n3⟩ := h2; cases e1; rw [z, upd_same] at n2; cases n2
    | g xs => obtain ⟨q', vs, e1, e2, r, n1, n2, n3⟩ := h2; cases e1; rw [z, upd_same] at n2; cases n2
    | k xs => obtain ⟨q', vs, e1, e2, r, n1, n2, n3⟩ := h2; cases e1; rw [z, upd_same] at n2; cases n2
  have ef : Ex F H := fun a u e => h.ef a u (by rw [upd_ne (ne_of_none e nf)]; exact e)
  refine ⟨⟨h.eb.mut nb, ef.mut nf, fun p hp => ?_, fun p hp => ?_, h.len, fun i s e => ?_, h.sep⟩, fun i s e so es => fd i s D e so es rfl⟩
  · have ne : p ≠ D := fun z => hp (by rw [z]; exact nf)
    rcases h.fo p (by rw [upd_ne ne]; exact hp) with z | z
    · exact z
    · exact absurd z ne
  · by_cases z : p = D
    · rw [z, upd_same]; exact fun y => nomatch y
    · rw [upd_ne z]; exact h.od p (.inl hp)
  · obtain ⟨o2, h1, h2⟩ := h.sl i s e
    refine ⟨o2, h1, ?_⟩
    cases s with
    | no => trivial
    | d x => exact h2
    | v a u =>
      refine ⟨h2.1, fun z hz => ?_⟩
      have e5 := h2.2 z hz
      by_cases ne : a = D
      · subst ne
        rw [upd_same] at e5
        exact absurd (Option.some.inj e5) (ho _ _)
      · rw [upd_ne ne] at e5; exact e5
    | l xs =>
      obtain ⟨q, vs, e1, e2, r, n1, n2, n3⟩ := h2
      have nq : q ≠ D := fd i _ q e rfl (by rw [h1, e1])
      exact ⟨q, vs, e1, by rw [upd_ne nq]; exact e2, r, n1, by rw [upd_ne nq] at n2; exact n2, fun z => n3 (.inl z)⟩
    | g xs =>
      obtain ⟨q, vs, e1, e2, r, n1, n2, n3⟩ := h2
      have nq : q ≠ D := fd i _ q e rfl (by rw [h1, e1])
      exact ⟨q, vs, e1, by rw [upd_ne nq]; exact e2, r, n1, by rw [upd_ne nq] at n2; exact n2, n3.elim id fun z => absurd z nq⟩
    | k xs =>
      obtain ⟨q, vs, e1, e2, r, n1, n2, n3⟩ := h2
      have nq : q ≠ D := fd i _ q e rfl (by rw [h1, e1])
      exact ⟨q, vs, e1, by rw [upd_ne nq]; exact e2, r, n1, by rw [upd_ne nq] at n2; exact n2, fun z => n3 (.inl z)⟩
end
theorem wipe_get {σ : L2.St} {j : Nat} : ∀ {vs : List Nat}, j ∉ vs → (wipe σ vs)[j]? = σ[j]? := fun {vs} h => wipe_out h
theorem wipe_at {σ : L2.St} {j : Nat} : ∀ {vs : List Nat}, j ∈ vs → (wipe σ vs)[j]? = if j < σ.length then some none else none
  | [], h => by simp at h
  | v :: vs, h => by
    unfold wipe
    by_cases e : v = j
    · subst e
      by_cases hv : v < σ.length
      · rw [if_pos hv, List.getElem?_set_self (by rw [wipe_length]; exact hv)]
      · rw [if_neg hv, List.getElem?_eq_none (by rw [List.length_set, wipe_length]; omega)]
    · rw [List.getElem?_set_ne e]
      exact wipe_at ((List.mem_cons.mp h).elim (fun z => absurd z.symm e) id)
theorem wipe_wipe {σ : L2.St} {vs : List Nat} : wipe (wipe σ vs) vs = wipe σ vs := List.ext_getElem? fun j => by
  by_cases h : j ∈ vs
  · rw [wipe_at h, wipe_at h, wipe_length]
  · rw [wipe_get h]
theorem wipe_eq {σ σ2 : L2.St} {vs : List Nat} (hl : σ2.length = σ.length) (h : ∀ j, j ∉ vs → σ2[j]? = σ[j]?) : wipe σ2 vs = wipe σ vs := List.ext_getElem? fun j => by
  by_cases hj : j ∈ vs
  · rw [wipe_at hj, wipe_at hj, hl]
  · rw [wipe_get hj, wipe_get hj, h j hj]
class SubL (a b : List Nat) : Prop where
  sub : ∀ x ∈ a, x ∈ b
class InL (x : Nat) (b : List Nat) : Prop where
  inl : x ∈ b
instance inHead (x : Nat) (l : List Nat) : InL x (x :: l) := ⟨List.mem_cons_self⟩
instance (priority := low) inTail (x y : Nat) (l : List Nat) [h : InL x l] : InL x (y :: l) := ⟨List.mem_cons_of_mem _ h.inl⟩
instance subNil (b : List Nat) : SubL [] b := ⟨fun _ h => by simp at h⟩
instance subCons (x : Nat) (a b : List Nat) [h : InL x b] [g : SubL a b] : SubL (x :: a) b := ⟨fun y hy => by
  rcases List.mem_cons.mp hy with rfl | hy
  · exact h.inl
  · exact g.sub y hy⟩
instance subApp (a a' b : List Nat) [h : SubL a b] [g : SubL a' b] : SubL (a ++ a') b := ⟨fun y hy => (List.mem_append.mp hy).elim (h.sub y) (g.sub y)⟩
def lcGo (g : DG) (tt : DT) (te : DE) (vs : List Nat) : List PyData → List PyData → DEnv → (List PyData → DEnv → Prop) → Prop
  | [], acc, ρ, Q => Q acc ρ
  | x :: xs, acc, ρ, Q => acc.length < sizeLine ∧ g x (wipeD ρ vs) fun ρ1 => tt ρ1 fun b ρ2 => if b = true then te ρ2 fun y ρ3 => lcGo g tt te vs xs (acc ++ [y]) (backD ρ ρ3 vs) Q else lcGo g tt te vs xs acc (backD ρ ρ2 vs) Q
def dLc (a : DA) (g : DG) (tt : DT) (te : DE) (vs : List Nat) : DA := fun ρ Q => a ρ fun ds ρ1 => lcGo g tt te vs ds [] ρ1 Q
def dYes : DT := fun ρ Q => Q true ρ
instance semYes : SemT tYes dYes where
  run := fun h q k => k _ _ _ _ h .refl q
instance semLc (Wi : TI) (G : TG) (Tt : TT) (Te : TE) (vs : List Nat) (a : DA) (g : DG) (sl : List Nat) (tt : DT) (te : DE) [i1 : SemI Wi a] [i2 : SemG G g sl] [i3 : SemT Tt tt] [i4 : SemE Te te] [i5 : SubL sl vs] : SemN (tLc Wi G Tt Te vs) (dLc a g tt te vs) where
  run := by
    intro O F B H σ ρ Q Q' h q k
    refine i1.run h q fun J H1 B1 ρ1 ds h1 g1 jw q1 => ?_
    intro D hD
    have nb1 : B1 D = none := h1.eb.free hD
    have nf : F D = none := h1.ef.free hD
    have no : ¬ O D := fun o => h1.od D o hD
    refine ⟨fun i m H' => m = ds.length - i ∧ i ≤ ds.length ∧ ∃ B' ρ' vs' acc, R O F B' H' σ ρ' ∧ Gr O B1 B' ∧ H' D = some (.lst vs') ∧ RpL B' vs' acc ∧ B' D = none ∧ Free σ ρ' D ∧ lcGo g tt te vs (ds.drop i) acc ρ' Q,
      ⟨_, rfl, Nat.zero_le _, B1, ρ1, [], [], h1.newO hD, .refl, upd_same, .nil, nb1, h1.free_new hD, q1⟩, ?_⟩
    rintro i m H' ⟨rfl, hi, B2, ρ2, vs', acc, h2, g2, hD2, ra, nb2, fr2, q2⟩
    by_cases hl : i < ds.length
    · have dr : ∀ d, ds[i]? = some d → ds.drop i = d :: ds.drop (i + 1) := fun d ed => by
        rw [List.getElem?_eq_getElem hl] at ed
        rw [List.drop_eq_getElem_cons hl, Option.some.inj ed]
      refine .inr ⟨jw.go i H' hl (g2.ex.trans h2.eb), fun H3 => ∃ B' ρ' vs' acc, R O F B' H3 σ ρ' ∧ Gr O B1 B' ∧ H3 D = some (.lst vs') ∧ RpL B' vs' acc ∧ B' D = none ∧ Free σ ρ' D ∧ lcGo g tt te vs (ds.drop (i + 1)) acc ρ' Q,
        fun H3 hx => ⟨ds.length - (i + 1), by omega, rfl, hl, hx⟩, fun x H3 y => ?_⟩
      obtain ⟨ey, d, ed, mk⟩ := jw.yld i H' x H3 hl (g2.ex.trans h2.eb) y
      rw [dr d ed] at q2
      obtain ⟨hz, q2⟩ := q2
      -- within the turn the new list is guarded
      obtain ⟨B3, h3, g3, r3⟩ := mk (h2.guard hD2 fr2) g2.ex
      have hn3 : ∀ {B4 : Hp} {H4 : Hp} {σ4 : L2.St} {ρ4 : DEnv}, R (fun p => O p ∨ p = D) (upd F D (.lst vs')) B4 H4 σ4 ρ4 → Gr (fun p => O p ∨ p = D) B2 B4 → H4 D = some (.lst vs') ∧ B4 D = none ∧ Gr O B2 B4 := fun {B4 H4 σ4 ρ4} r g => by
        have e4 : H4 D = some (.lst vs') := r.ef D _ upd_same
        refine ⟨e4, ?_, ⟨g.ex, fun p hp => g.ag p (.inl hp)⟩⟩
        rcases g.ag D (.inr rfl) with z | ⟨xs, z⟩
        · rw [z]; exact nb2
        · have := r.eb D _ z
          rw [e4] at this; cases this
      refine i2.run (h3.wipe vs) r3 q2 fun σ4 H4 B4 ρ4 h4 g4 w4 q4 => ?_
      have w5 : ∀ j, j ∉ vs → σ4[j]? = σ[j]? := fun j hj => (w4.at_ j fun z => hj (i5.sub j z)).trans (wipe_get hj)
      have l4 : σ4.length = σ.length := by rw [w4.len, wipe_length]
      refine ⟨wipe_eq l4 w5, i3.run h4 q4 fun b H5 B5 ρ5 h5 g5 q5 => ?_⟩
      cases b with
      | false =>
        rw [if_neg Bool.false_ne_true] at q5 ⊢
        obtain ⟨e5, n5, g6⟩ := hn3 h5 ((g3.trans g4).trans g5)
        have h6 := h2.guard hD2 fr2
        have h7 := h6.back h5 (((g3.trans g4).trans g5).ex) l4 w5
        obtain ⟨h8, f8⟩ := h7.unguard (o' := .lst vs') nf n5 (fun _ _ z => nomatch z)
        have eu : upd H5 D (.lst vs') = H5 := funext fun b => by
          by_cases z : b = D
          · rw [z, upd_same, e5]
          · rw [upd_ne z]
        rw [eu] at h8
        exact ⟨_, _, vs', acc, h8, g2.trans g6, e5, ra.up g6.ex, n5, f8, q5⟩
      | true =>
        rw [if_pos rfl] at q5 ⊢
        refine i4.run h5 q5 fun yv H6 B6 ρ6 d6 h6 g6 r6 q6 => ?_
        obtain ⟨e6, n6, g7⟩ := hn3 h6 (((g3.trans g4).trans g5).trans g6)
        have h7 := (h2.guard hD2 fr2).back h6 ((((g3.trans g4).trans g5).trans g6).ex) l4 w5
        obtain ⟨h8, f8⟩ := h7.unguard (o' := .lst (vs' ++ [yv])) nf n6 (fun _ _ z => nomatch z)
        refine ⟨vs', e6, by rw [ra.length]; exact hz, _, _, vs' ++ [yv], acc ++ [d6], h8, g2.trans g7, upd_same, (ra.up g7.ex).append (.one r6), n6, f8, q6⟩
    · have hd : ds.drop i = [] := List.drop_eq_nil_of_le (by omega)
      have he : i = ds.length := by omega
      rw [hd] at q2
      subst he
      exact .inl ⟨jw.stop H' (g2.ex.trans h2.eb), k D vs' acc H' B2 ρ2 h2 (g1.trans g2) hD2 ra nb2 nf no fr2 q2⟩
/-- a comprehension's term, its own slots told -/
theorem pe_lcD {X : Cx} {elt tg iter : Expr} {ifs : List Expr} {scope : Scope} {own : List (Str × Nat)} {vs : List Nat} {pos : Pos} {wi : TI} {g : TG} {tt : TT} {te : TE} (hv : own.map (·.2) = vs) (hc : X.calm = true) (hN : X.N.Nodup) (hi : PI X tg iter wi) (ok : BlkOk X.N X.env.scope scope own)
    (hg : ∀ (s : Shared) (H : Hp) (C : Addr) (cl : List (Str × Addr)) (fp : List Addr), PG (X.blk s H scope (compEnvC scope cl C X.env) fp) tg g) (ht : ∀ (s : Shared) (H : Hp) (C : Addr) (cl : List (Str × Addr)) (fp : List Addr), PTs (X.blk s H scope (compEnvC scope cl C X.env) fp) ifs tt)
    (he : ∀ (s : Shared) (H : Hp) (C : Addr) (cl : List (Str × Addr)) (fp : List Addr), PE (X.blk s H scope (compEnvC scope cl C X.env) fp) elt te) (hs : ∀ x, foldedSetIterable iter X.env x = pure x := by intro _; rfl) :
    PE X (.ListComp elt [⟨tg, iter, ifs, 0⟩] scope pos) (tLc wi g tt te vs) := by
  subst hv
  exact pe_lc hc hN hi ok hg ht he hs
end DL

namespace DL
open PySem PySem.Spec PyProof.Rows L2

/-- a def's promise where no repr is under way -/
structure FnG (P : Program) (w : World) (K : PySem.W.Frag) (mg : Str → Option Value) (base : Heap) (k : Nat) (f : Addr) (fd : FuncData) (ps : List Str) (sp : Sp) : Prop where
  len : ∀ vs H Q E, sp vs H Q E → vs.length = ps.length
  run : ∀ (A : Around) (outer : List PySem.Env) (s : Shared) (H : Hp) (args : Args) (us : List Value) (vs : List V) (Q : VK) (E : XK), A.guards = some [] → Room k A → Env0 P w K mg base A outer s H →
    BindsTo s fd args (ps.zip us) → Vals vs us → sp vs H Q E → codeAny (model P w) A (.call (.ref f) args) (CR CX0 outer P w H s Q E) s
section
variable {P : Program} {w : World} {K : PySem.W.Frag} {mg : Str → Option Value} {base : Heap}
theorem FnG.mono {j k : Nat} {f : Addr} {fd : FuncData} {ps : List Str} {sp : Sp} (F : FnG P w K mg base j f fd ps sp) (h : j ≤ k) : FnG P w K mg base k f fd ps sp :=
  ⟨F.len, fun A outer s H args us vs Q E hg hr => F.run A outer s H args us vs Q E hg (hr.mono h)⟩
theorem FnG.imp {k : Nat} {f : Addr} {fd : FuncData} {ps : List Str} {sp sp' : Sp} (F : FnG P w K mg base k f fd ps sp) (h : ∀ vs H Q E, sp' vs H Q E → sp vs H Q E) : FnG P w K mg base k f fd ps sp' :=
  ⟨fun vs H Q E q => F.len vs H Q E (h _ _ _ _ q), fun A outer s H args us vs Q E hg hr he hb hv hs => F.run A outer s H args us vs Q E hg hr he hb hv (h _ _ _ _ hs)⟩
theorem fn_ofG {k : Nat} {f : Addr} {nm qual : Str} {par : Arguments} {body : List Stmt} {sc : Scope} {dV kV doc pm cdv ct oc : Value} {an od : Option Addr} {osl : Array (Option Value)} {N ps : List Str} {sp : Sp}
    (lk : K.lookup f = some ⟨oc, od, .func (PySem.W.fnOf nm qual par body sc dV kV doc pm an cdv ct), osl⟩) (hcd : PySem.W.codeIn K cdv qual = true) (S : FnScope N ps sc) (len : ∀ vs H Q E, sp vs H Q E → vs.length = ps.length)
    (hbody : ∀ (A : Around) (outer : List PySem.Env) (s : Shared) (H : Hp) (vs : List V) (Q : VK) (E : XK), A.guards = some [] → Room k (A.deeper (envOfC qual sc s.heap.objs.size f cdv)) → sp vs H Q E →
      ∃ t, PSs (cxOf CX0 P w K mg base N qual sc f cdv A outer s H E) body t ∧ t { nx := fun _ H' => Q .non H', rt := Q } (L2.start N vs) H) :
    FnG P w K mg base (k + 1) f (PySem.W.fnOf nm qual par body sc dV kV doc pm an cdv ct) ps sp := ⟨len, by
  intro A outer s H args us vs Q E gd hr e0 hb r hsp
  have hold : ∀ b o, base.get? b = some o → s.heap.get? b = some o := fun b o e => (e0.bs b o e).1
  have kin : K.In s.heap := e0.mod.kin.keeps hold
  have nol : s.heap.NoLimit := e0.mod.nolimit.keeps hold
  have kinds : ∀ y ∈ ps.zip us, sc.names.lookup y.1 = some .local ∨ (sc.names.lookup y.1 = some .cell ∧ ((cellsFrom (s.heap.objs.size + 1) sc.names []).lookup y.1).isSome = true) := by
    rintro ⟨n, v⟩ hy
    exact (S.par n (List.of_mem_zip hy).1).imp id fun q => ⟨q, PySem.W.cellsFrom_some _ _ _ (Or.inl q)⟩
  apply codeAny_call_function hr.depth (kin _ _ lk) rfl S.co S.gen rfl (PySem.W.codeRec_of kin hcd)
  apply hb
  apply wpAny_newFunctionEnv_cells S.kind kinds
  intro env he s1 x
  cases he
  obtain ⟨t, ht, hq⟩ := hbody A outer s H vs Q E gd (Room.deeper hr _) hsp
  have I := inv_start (CX := CX0) (N := N) (E := E) (qual := qual) (f := f) (cd := cdv) S hr.hd e0 (len _ _ _ _ hsp) r x
  refine ⟨nol.keeps x.toInCall.keep, codeAny_func (wpAny_mono (ht.run [] s1 _ H _ I hq) ?_ fun _ _ q => q)⟩
  intro fl s' hs
  cases fl with
  | brk => obtain ⟨_, _, _, q⟩ := hs; exact q.elim
  | cont => obtain ⟨_, _, _, q⟩ := hs; exact q.elim
  | ret u => obtain ⟨v, _, H', J, rv, q⟩ := hs; exact ⟨v, H', J.os, J.bare, J.base, J.hok, rv, q⟩
  | next => obtain ⟨_, H', J, q⟩ := hs; exact ⟨.non, H', J.os, J.bare, J.base, J.hok, rfl, q⟩⟩
theorem okG {x qual : Str} {st : Stmt} {f : Addr} {fd : FuncData} {N ps : List Str} {k : Nat} {sp : Sp} (F : Fun K x qual st f fd) (S : FnScope N ps (defScope st)) (len : ∀ vs H Q E, sp vs H Q E → vs.length = ps.length)
    (hbody : ∀ (cdv : Value) (A : Around) (outer : List PySem.Env) (s : Shared) (H : Hp) (vs : List V) (Q : VK) (E : XK), A.guards = some [] → Room k (A.deeper (envOfC qual (defScope st) s.heap.objs.size f cdv)) → sp vs H Q E →
      ∃ t, PSs (cxOf CX0 P w K mg base N qual (defScope st) f cdv A outer s H E).nox (defBody st) t ∧ t { nx := fun _ H' => Q .non H', rt := Q } (L2.start N vs) H) : FnG P w K mg base (k + 1) f fd ps sp := by
  obtain ⟨oc, od, kV, doc, pm, an, cdv, ct, osl, e, lk, hcd⟩ := F.ex
  subst e
  exact fn_ofG lk hcd S len fun A outer s H vs Q E hg hr hsp => (hbody cdv A outer s H vs Q E hg hr hsp).imp fun t h => ⟨h.1.nox, h.2⟩
end
/-- a def of the text, as its callers see it -/
structure Cal (P : Program) (w : World) (K : PySem.W.Frag) (mg : Str → Option Value) (base : Heap) (k : Nat) (x : Str) (ps : List Str) (sp : Sp) : Prop where
  ex : ∃ f fd, FnG P w K mg base k f fd ps sp ∧ mg x = some (.ref f) ∧ PySem.W.keepIn K (.ref f) = true ∧ Binds K fd ps []
section
variable {X : Cx} {k : Nat} {x : Str} {ps : List Str} {sp : Sp} {p pos : Pos} {e : Expr} {es : List Expr} {t : TA}
theorem run_g {f : Addr} {fd : FuncData} {pins : List (Addr × Obj)} {σ : L2.St} {H : Hp} {s : Shared} {Q : VK} {us : List Value} {vs : List V} (F : FnG X.prog X.w X.K X.mg X.base k f fd ps sp) (hg : X.A.guards = some []) (hr : Room k X.A)
    (hb : Binds X.K fd ps []) (I : Inv X pins σ H s) (r : Vals vs us) (h : sp vs H Q E0) : wpAny (model X.prog X.w) X.A (call (.ref f) us) (EP X pins σ Q) X.xe s := by
  have hl : us.length = ps.length := r.length.symm.trans (F.len _ _ _ _ h)
  have hb1 : BindsTo s fd ⟨us, []⟩ (ps.zip us) := by
    have := hb s us I.kIn (by rw [List.append_nil]; exact hl)
    rwa [List.append_nil] at this
  apply wpAny_call
  apply codeAny_mono (F.run X.A X.stack s H ⟨us, []⟩ us vs Q E0 hg hr I.env0 hb1 r h)
  intro res s' hq
  match res, hq with
  | .error e, hq => exact hq.elim
  | .ok (.ret u), hq => exact I.after hq
  | .ok .next, hq => exact hq.elim
  | .ok .brk, hq => exact hq.elim
  | .ok .cont, hq => exact hq.elim
theorem pe_cal (C : Cal X.prog X.w X.K X.mg X.base k x ps sp) (gd : X.A.guards = some []) (hr : Room k X.A) (hg : Gl X x) (ha : PA X (e :: es) t) (hdb : (x == ("__debug__" : Str)) = false := by decide)
    (he : starEach (e :: es) X.env = (false, eval e X.env) :: starEach es X.env := by rfl) (hpl : (backTo pos (starEach es X.env)).any (·.1) = false := by rfl) : PE X (.Call (.Name x p) (e :: es) [] pos) (tCall sp [] E0 t) := by
  obtain ⟨f, fd, F, hm, hk, hb⟩ := C.ex
  refine ⟨fun pins s σ H Q I h => wpAny_Call_Name_kw (ld_glob I hg hm ?_ hdb)⟩
  apply PySem.W.callWith_K (h₀ := X.base) I.ok.mod.kin hk _ he hpl
  refine thn (ha.run pos pins s σ H _ I h) fun us s1 hx => ?_
  obtain ⟨vs, H1, I1, r, q⟩ := hx
  rw [List.append_nil] at q
  exact ⟨I1.kIn, run_g F gd hr hb I1 r q⟩
theorem pe_cal0 (C : Cal X.prog X.w X.K X.mg X.base k x ps sp) (gd : X.A.guards = some []) (hr : Room k X.A) (hg : Gl X x) (hdb : (x == ("__debug__" : Str)) = false := by decide) : PE X (.Call (.Name x p) [] [] pos) (tCall sp [] E0 tNil) := by
  obtain ⟨f, fd, F, hm, hk, hb⟩ := C.ex
  exact ⟨fun pins s σ H Q I h => wpAny_Call_Name_kw (ld_glob I hg hm (PySem.W.callWith_K0 I.kIn hk (run_g F gd hr hb I .nil h)) hdb)⟩
end

theorem law_callG {P : Program} {w : World} {K : PySem.W.Frag} {mg mb : Str → Option Value} {k : Nat} {fa a : Addr} {fd : FuncData} {x : Str} {sp : Sp} {s₁ : Shared} {vs : List Value} {ns : List Int}
    (KX : K.In s₁.heap) (hns : s₁.heap.Ns mainGlobals mg) (hb : s₁.heap.Ns builtinsNs mb) (hbb : ∀ x : Str, x ≠ "__name__" → mb x = bootBuiltins x) (hlim : s₁.heap.NoLimit) (hgn : s₁.gens = #[])
    (ha : s₁.heap.get? a = some { cls := .type "list", data := .seq vs.toArray }) (hi : IntsAre vs ns) (hl : ns.length ≤ sizeLine) (hr : Room k callerA)
    (F : ∀ base : Heap, K.In base → base.Ns mainGlobals mg → base.NoDigits → FnG P w K mg base k fa fd [x] sp) (hdig : s₁.heap.NoDigits) (hbind : ∀ (s : Shared) (u : Value), BindsTo s fd ⟨[u], []⟩ [(x, u)])
    (hsp : ∀ H : Hp, Only H → SqL K H a (ns.map V.int) → sp [.ref a] H (fun v _ => v = .bl true) E0) :
    codeAny (model P w) callerA (.call (.ref fa) ⟨[.ref a], []⟩) (fun r s' => r = .ok (.ret (.bool true)) ∧ OldK s₁.heap s'.heap ∧ s'.os = s₁.os ∧ AllBare s'.gens) s₁ := by
  have main : ∀ H : Hp, (∀ b u, H b = some u → b = a ∧ ∃ o xs, u = .frz o (.lst xs)) → SqL K H a (ns.map V.int) → HOk P w H s₁.heap → (H a ≠ none → K.lookup a = none) →
      codeAny (model P w) callerA (.call (.ref fa) ⟨[.ref a], []⟩) (fun r s' => r = .ok (.ret (.bool true)) ∧ OldK s₁.heap s'.heap ∧ s'.os = s₁.os ∧ AllBare s'.gens) s₁ := by
    intro H hA hS hok hK
    have hO : Only H := fun b => by
      cases q : H b with
      | none => exact .inl rfl
      | some u => obtain ⟨_, o, xs, rfl⟩ := hA b u q; exact .inr ⟨o, xs, rfl⟩
    have ns2 : ∀ {b : Addr} {m : Str → Option Value}, s₁.heap.Ns b m → (hidT s₁.heap H).Ns b m := by
      rintro b m ⟨o, es, ep, e, d, r⟩
      refine ⟨o, es, ep, hidT_get e ?_, d, r⟩
      cases q : H b with
      | none => rfl
      | some u =>
        obtain ⟨rfl, _⟩ := hA b u q
        rw [ha] at e
        cases e
        cases d
    have kb : K.In (hidT s₁.heap H) := fun b o e => hidT_get (KX b o e) (by
      cases q : H b with
      | none => rfl
      | some u =>
        obtain ⟨rfl, _⟩ := hA b u q
        rw [hK (by rw [q]; exact fun z => nomatch z)] at e
        cases e)
    obtain ⟨mc, l1, l2⟩ := hlim
    have env0 : Env0 P w K mg (hidT s₁.heap H) callerA [] s₁ H := {
      frames := rfl
      mod := ⟨kb, ns2 hns, ⟨mb, ns2 hb, hbb⟩, ⟨mc, ns2 l1, l2⟩⟩
      bs := fun b o e => of_hidT e
      bsz := Nat.le_of_eq (hidT_size _ _)
      funs := trivial
      frf := fun b hb => by cases hb
      hok := hok
      bare := .of_eq hgn }
    apply codeAny_mono ((F _ kb (ns2 hns) (let ⟨mc, a1, a2⟩ := hdig; ⟨mc, ns2 a1, a2⟩)).run callerA [] s₁ H ⟨[.ref a], []⟩ [.ref a] [.ref a] _ _ rfl hr env0 (hbind s₁ (.ref a)) (.cons rfl .nil) (hsp H hO hS))
    intro r s' h
    match r, h with
    | .error e, h => exact h.elim
    | .ok .next, h => exact h.elim
    | .ok .brk, h => exact h.elim
    | .ok .cont, h => exact h.elim
    | .ok (.ret u), h =>
      obtain ⟨v, H', os, bare, un, hok', r', q⟩ := h
      cases (show v = .bl true from q)
      cases (show u = Value.bool true from r')
      refine ⟨rfl, OldK.of_keep fun b o e => ?_, os, bare⟩
      cases q : H b with
      | none => exact un.keep b o e q (fun z => by cases z) (by simp)
      | some u =>
        obtain ⟨_, ob, xs, rfl⟩ := hA b u q
        obtain ⟨e1, _⟩ := hok b _ q
        obtain ⟨e2, _⟩ := hok' b _ (un.frzs b ob _ q)
        rw [e] at e1
        cases e1
        exact e2
  have rv := vals_ints hi
  cases hk : K.lookup a with
  | some o =>
    have e := KX a o hk
    rw [ha] at e
    cases e
    refine main (fun _ => none) (fun b u z => nomatch z) (.inr ⟨_, _, _, hk, rfl, rfl, rfl, ?_, by simpa using rv⟩) (fun b u z => nomatch z) fun z => absurd rfl z
    rw [List.size_toArray, hi.length]
    exact hl
  | none =>
    have at1 : ∀ (b : Addr) (u : HO), (if b = a then some (HO.frz { cls := .type "list", data := .seq vs.toArray } (.lst (ns.map V.int))) else none) = some u → b = a ∧ u = .frz { cls := .type "list", data := .seq vs.toArray } (.lst (ns.map V.int)) := fun b u z => by
      by_cases hb : b = a
      · rw [if_pos hb] at z; cases z; exact ⟨hb, rfl⟩
      · rw [if_neg hb] at z; cases z
    refine main (fun b => if b = a then some (.frz { cls := .type "list", data := .seq vs.toArray } (.lst (ns.map V.int))) else none) (fun b u z => ?_) (.inl (.inr ⟨_, if_pos rfl⟩)) (fun b u z => ?_) fun _ => hk
    · obtain ⟨e, rfl⟩ := at1 b u z
      exact ⟨e, _, _, rfl⟩
    · obtain ⟨rfl, rfl⟩ := at1 b u z
      exact ⟨ha, by rw [List.length_map]; exact hl, vs, _, rv, ha⟩
theorem walk_ofG {l : PySem.W.OpenLaw} {n k : Nat} {q : Program} {loose : List Str} {XP : (Str → Option Value) → Heap → Prop} {YP : World → Heap → Prop} {d : DefRec} {K : Params → PySem.W.Frag} {sp : World → Sp} {x : Str}
    (hn : l.most = some n) (hn2 : n ≤ sizeLine) (hdf : d.params.defaults = []) (hr : Room k callerA) (hY : ∀ (w : World) (h : Heap), YP w h → (K w.params).In h)
    (F : ∀ (w : World) (mg : Str → Option Value) (fa : Addr) (h : Heap), (K w.params).In h → h.Ns mainGlobals mg → mg d.name = some (.ref fa) →
      ∃ fd : FuncData, (∀ (s : Shared) (u : Value), BindsTo s fd ⟨[u], []⟩ [(x, u)]) ∧ ∀ base : Heap, (K w.params).In base → base.Ns mainGlobals mg → base.NoDigits → FnG l.prog w (K w.params) mg base k fa fd [x] (sp w))
    (hsp : ∀ (w : World) (H : Hp) (a : Addr) (ns : List Int), ns.length ≤ n → Only H → SqL (K w.params) H a (ns.map V.int) → sp w [.ref a] H (fun v _ => v = .bl true) E0) :
    PySem.W.WalkO q loose XP YP l.row.toRowW d [] (fun f vs => PySem.call f vs) := by
  apply Att.attach_call hn hdf
  intro w s₀ s₁ mg mb fa o pm cd doc a vs ns G Y ho hd hcd hmg hobj hints hlen hg
  obtain ⟨fd, hb, hF⟩ := F w mg fa _ (hY w _ Y) G.T.g hmg
  exact law_callG (hY w _ Y) G.T.g G.T.b G.T.builtins G.T.nolimit hg hobj hints (Nat.le_trans hlen hn2) hr hF G.T.nodigits hb fun H hO hS => hsp w H a ns hlen hO hS
end DL

namespace DL
open PySem PySem.Spec PyProof.Rows L2

abbrev DFn := List PyData → (PyData → Prop) → Prop
abbrev DFnN := List PyData → (List PyData → Prop) → Prop
abbrev DFnG := List PyData → List PyData → (PyData → List PyData → Prop) → Prop
/-- nothing that stands is told anew, but tuples -/
def Ag (H B B' : Hp) : Prop := ∀ p, H p ≠ none → B' p = B p ∨ ∃ xs, B' p = some (.tup xs)
/-- a def that gives a value -/
def spD (f : DFn) : Sp := fun vs H Q _ => ∃ B ds Qd, Ex B H ∧ RpL B vs ds ∧ f ds Qd ∧ ∀ d v H' B', Ex H H' → Ex B B' → Ex B' H' → Ag H B B' → Rp B' v d → Qd d → Q v H'
/-- a def that gives a new list -/
def spN (f : DFnN) : Sp := fun vs H Q _ => ∃ B ds Qd, Ex B H ∧ RpL B vs ds ∧ f ds Qd ∧ ∀ ds' p us H' B', Ex H H' → Ex B B' → Ex B' H' → Ag H B B' → H p = none → B' p = none → H' p = some (.lst us) → RpL B' us ds' → Qd ds' → Q (.ref p) H'
/-- a def whose first argument is a list of the caller's own, which it changes -/
def spG (f : DFnG) : Sp := fun vs H Q _ => ∃ B g gv gs ws ds Qd, vs = .ref g :: ws ∧ H g = some (.lst gv) ∧ RpL B gv gs ∧ B g = none ∧ Ex B H ∧ RpL B ws ds ∧ f gs ds Qd ∧
  ∀ d gs' v H' B' gv', (∀ p o, p ≠ g → H p = some o → H' p = some o) → H' g = some (.lst gv') → RpL B' gv' gs' → B' g = none → Ex B B' → Ex B' H' → Ag H B B' → Rp B' v d → Qd d gs' → Q v H'
/-- .. and gives a new list -/
abbrev DFnGN := List PyData → List PyData → (List PyData → List PyData → Prop) → Prop

def dCall (f : DFn) (a : DA) : DE := fun ρ Q => a ρ fun ds ρ1 => f ds fun d => Q d ρ1
def dCallN (f : DFnN) (a : DA) : DA := fun ρ Q => a ρ fun ds ρ1 => f ds fun d => Q d ρ1
instance semCall (f : DFn) (E : XK) (Ta : TA) (a : DA) [i1 : SemA Ta a] : SemE (tCall (spD f) [] E Ta) (dCall f a) where
  run := fun h q k => i1.run h q fun vs H1 B1 ρ1 ds h1 g1 r1 q1 => ⟨B1, ds, _, h1.eb, by rw [List.append_nil]; exact r1, q1, fun d v H' B' hh bb bh ag rv qd =>
    k v H' B' ρ1 d (h1.grow bb bh hh ag) (g1.trans ⟨bb, fun p hp => ag p (h1.od p hp)⟩) rv qd⟩
instance semCallN (f : DFnN) (E : XK) (Ta : TA) (a : DA) [i1 : SemA Ta a] : SemN (tCall (spN f) [] E Ta) (dCallN f a) where
  run := fun h q k => i1.run h q fun vs H1 B1 ρ1 ds h1 g1 r1 q1 => ⟨B1, ds, _, h1.eb, by rw [List.append_nil]; exact r1, q1, fun d p us H' B' hh bb bh ag hp nb e r qd =>
    k p us d H' B' ρ1 (h1.grow bb bh hh ag) (g1.trans ⟨bb, fun p hp => ag p (h1.od p hp)⟩) e r nb (h1.ef.free hp) (fun o => h1.od p o hp) (h1.free_new hp) qd⟩
def ownL (s : Option Sl) : Bool := match s with
  | some (.l _) => true
  | some (.g _) => true
  | _ => false
def dCallG (f : DFnG) (gi : Nat) (a : DA) : DE := fun ρ Q => ownL ρ[gi]? = true ∧ a ρ fun ds ρ1 => match ρ1[gi]? with
  | some (.l gs) => f gs ds fun d gs' => Q d (ρ1.set gi (.l gs'))
  | some (.g gs) => f gs ds fun d gs' => Q d (ρ1.set gi (.g gs'))
  | _ => False
theorem ownL_at {O : Addr → Prop} {F B H : Hp} {σ : L2.St} {ρ : DEnv} (h : R O F B H σ ρ) {gi : Nat} (e : ownL ρ[gi]? = true) : ∃ p, σ[gi]? = some (some (.ref p)) := by
  unfold ownL at e
  split at e
  · rename_i xs e1
    obtain ⟨o, e2, p, vs, rfl, _⟩ := h.sl _ _ e1
    exact ⟨p, e2⟩
  · rename_i xs e1
    obtain ⟨o, e2, p, vs, rfl, _⟩ := h.sl _ _ e1
    exact ⟨p, e2⟩
  · cases e
/-- behind a callee that may have changed the cell of slot gi -/
theorem R.changed {O : Addr → Prop} {F B H B' H' : Hp} {σ : L2.St} {ρ : DEnv} (h : R O F B H σ ρ) {gi : Nat} {g : Addr} {s t : Sl} {gv' : List V} {gs' : List PyData} (e : ρ[gi]? = some s) (so : s.own = true) (es : σ[gi]? = some (some (.ref g))) (nb : B g = none) (nf : F g = none)
    (hh : ∀ p o, p ≠ g → H p = some o → H' p = some o) (hg : H' g = some (.lst gv')) (r : RpL B' gv' gs') (nb' : B' g = none) (bb : Ex B B') (bh : Ex B' H') (ag : Ag H B B')
    (ht : RS O F B' H' (some (.ref g)) t) (to : t.own = true) : R O F B' H' σ (ρ.set gi t) := by
  refine ⟨bh, fun p o e1 => hh p o (fun z => by rw [z, nf] at e1; cases e1) (h.ef p o e1), h.fo, fun p hp => ?_, by simp [h.len], fun j u ej => ?_, fun a b sa sb q ea0 eb0 oa ob ha hb => ?_⟩
  · by_cases z : p = g
    · rw [z, hg]; exact fun y => nomatch y
    · cases e1 : H p with
      | none => exact absurd e1 (h.od p hp)
      | some o => rw [hh p o z e1]; exact fun y => nomatch y
  · rcases getElem?_set_cases ej with ⟨rfl, rfl⟩ | ⟨ne, ej⟩
    · exact ⟨_, es, ht⟩
    · obtain ⟨o', h1, h2⟩ := h.sl j u ej
      refine ⟨o', h1, ?_⟩
      have agq : ∀ q o, H q = some o → (∀ xs, o ≠ .tup xs) → q ≠ g → B q = none → B' q = none := fun q o e1 nt nq n1 => by
        rcases ag q (by rw [e1]; exact fun y => nomatch y) with z | ⟨xs, z⟩
        · rw [z]; exact n1
        · have := bh _ _ z
          rw [hh q o nq e1] at this
          exact absurd (Option.some.inj this) (nt xs)
      cases u with
      | no => trivial
      | d x => obtain ⟨v, e1, r⟩ := h2; exact ⟨v, e1, r.up bb⟩
      | v a u => exact h2
      | l xs =>
        obtain ⟨q, vs, e1, e2, r, n1, n2, n3⟩ := h2
        have nq : q ≠ g := fun z => ne (h.sep gi j s _ g e ej so rfl es (by rw [h1, e1, z]))
        exact ⟨q, vs, e1, hh _ _ nq e2, r.up bb, agq q _ e2 (fun _ z => nomatch z) nq n1, n2, n3⟩
      | g xs =>
        obtain ⟨q, vs, e1, e2, r, n1, n2, n3⟩ := h2
        have nq : q ≠ g := fun z => ne (h.sep gi j s _ g e ej so rfl es (by rw [h1, e1, z]))
        exact ⟨q, vs, e1, hh _ _ nq e2, r.up bb, agq q _ e2 (fun _ z => nomatch z) nq n1, n2, n3⟩
      | k xs =>
        obtain ⟨q, vs, e1, e2, r, n1, n2, n3⟩ := h2
        have nq : q ≠ g := fun z => ne (h.sep gi j s _ g e ej so rfl es (by rw [h1, e1, z]))
        exact ⟨q, vs, e1, hh _ _ nq e2, r.up bb, agq q _ e2 (fun _ z => nomatch z) nq n1, n2, n3⟩
  · rcases getElem?_set_cases ea0 with ⟨rfl, rfl⟩ | ⟨na, ea⟩
    · rcases getElem?_set_cases eb0 with ⟨e', _⟩ | ⟨nb', eb⟩
      · exact e'
      · exact h.sep _ _ s sb q e eb so ob ha hb
    · rcases getElem?_set_cases eb0 with ⟨rfl, rfl⟩ | ⟨nb', eb⟩
      · exact h.sep _ _ sa s q ea e oa so ha hb
      · exact h.sep a b sa sb q ea eb oa ob ha hb
instance (priority := high) semCallG (f : DFnG) (gi : Nat) (E : XK) (Ta : TA) (a : DA) [i1 : SemA Ta a] : SemE (tCall (spG f) [] E (tCons (tVarF gi) Ta)) (dCallG f gi a) where
  run := by
    intro O F B H σ ρ Q Q' h q k
    obtain ⟨e0, q⟩ := q
    obtain ⟨g, eg⟩ := ownL_at h e0
    refine ⟨.ref g, eg, .inl ?_⟩
    refine i1.run h q fun vs H1 B1 ρ1 ds h1 g1 r1 q1 => ?_
    split at q1
    · rename_i gs e1
      obtain ⟨o, e2, p, gv, rfl, e3, r3, n1, n2, n3⟩ := h1.sl _ _ e1
      rw [eg] at e2
      cases e2
      refine ⟨B1, g, gv, gs, vs, ds, _, by rw [List.append_nil], e3, r3, n1, h1.eb, r1, q1, fun d gs' v H' B' gv' hh hg rg nb' bb bh ag rv qd => ?_⟩
      exact k v H' B' _ d (h1.changed (t := .l gs') e1 rfl eg n1 n2 hh hg rg nb' bb bh ag ⟨g, gv', rfl, hg, rg, nb', n2, n3⟩ rfl) (g1.trans ⟨bb, fun p hp => ag p (h1.od p hp)⟩) rv qd
    · rename_i gs e1
      obtain ⟨o, e2, p, gv, rfl, e3, r3, n1, n2, n3⟩ := h1.sl _ _ e1
      rw [eg] at e2
      cases e2
      refine ⟨B1, g, gv, gs, vs, ds, _, by rw [List.append_nil], e3, r3, n1, h1.eb, r1, q1, fun d gs' v H' B' gv' hh hg rg nb' bb bh ag rv qd => ?_⟩
      exact k v H' B' _ d (h1.changed (t := .g gs') e1 rfl eg n1 n2 hh hg rg nb' bb bh ag ⟨g, gv', rfl, hg, rg, nb', n2, n3⟩ rfl) (g1.trans ⟨bb, fun p hp => ag p (h1.od p hp)⟩) rv qd
    · exact q1.elim

def startD (N : List Str) (ds : List PyData) : DEnv := ds.map Sl.d ++ List.replicate (N.length - ds.length) .no
theorem start_get {N : List Str} {vs : List V} {i : Nat} : (start N vs)[i]? = if i < vs.length then (vs[i]?).map some else if i < vs.length + (N.length - vs.length) then some none else none := by
  unfold L2.start
  by_cases h : i < vs.length
  · rw [if_pos h, List.getElem?_append_left (by simpa using h), List.getElem?_map]
  · rw [if_neg h, List.getElem?_append_right (by simpa using Nat.le_of_not_lt h), List.getElem?_replicate]
    simp only [List.length_map]
    by_cases h2 : i < vs.length + (N.length - vs.length)
    · rw [if_pos h2, if_pos (by omega)]
    · rw [if_neg h2, if_neg (by omega)]
theorem startD_in {N : List Str} {ds : List PyData} {i : Nat} {s : Sl} (h : (startD N ds)[i]? = some s) : (∃ d, ds[i]? = some d ∧ s = .d d) ∨ (ds.length ≤ i ∧ i < ds.length + (N.length - ds.length) ∧ s = .no) := by
  unfold startD at h
  by_cases hi : i < ds.length
  · rw [List.getElem?_append_left (by simpa using hi), List.getElem?_map, List.getElem?_eq_getElem hi] at h
    exact .inl ⟨ds[i], List.getElem?_eq_getElem hi, (Option.some.inj h).symm⟩
  · rw [List.getElem?_append_right (by simpa using Nat.le_of_not_lt hi), List.getElem?_replicate] at h
    simp only [List.length_map] at h
    split at h
    · exact .inr ⟨by omega, by omega, (Option.some.inj h).symm⟩
    · cases h
theorem r_start {N : List Str} {B H : Hp} {vs : List V} {ds : List PyData} (e : Ex B H) (r : RpL B vs ds) : R (fun p => H p ≠ none) H B H (start N vs) (startD N ds) where
  eb := e
  ef := Ex.refl H
  fo := fun p hp => hp
  od := fun p hp => hp
  len := by
    unfold L2.start startD
    simp [r.length]
  sl := fun i s es => by
    rw [start_get]
    rcases startD_in es with ⟨d, e1, rfl⟩ | ⟨h1, h2, rfl⟩
    · obtain ⟨v, e2, r2⟩ := r.get e1
      have hi : i < vs.length := (List.getElem?_eq_some_iff.mp e2).1
      exact ⟨some v, by rw [if_pos hi, e2]; rfl, v, rfl, r2⟩
    · rw [← r.length] at h1 h2
      exact ⟨none, by rw [if_neg (by omega), if_pos h2], trivial⟩
  sep := fun i j si sj p ei ej oi oj => by
    rcases startD_in ei with ⟨d, e1, rfl⟩ | ⟨h1, h2, rfl⟩ <;> cases oi
section
variable {P : Program} {w : World} {K : PySem.W.Frag} {mg : Str → Option Value} {base : Heap}
/-- THE RULE: a def's term, its reading over data -/
theorem mkD {x qual : Str} {st : Stmt} {f : Addr} {fd : FuncData} {N ps : List Str} {k : Nat} (F : Fun K x qual st f fd) (S : FnScope N ps (defScope st)) {fn : DFn} {T : TS} {t : DS} (hlen : ∀ ds Q, fn ds Q → ds.length = ps.length)
    (hd : ∀ (cdv : Value) (A : Around) (outer : List PySem.Env) (s : Shared) (H : Hp) (E : XK), A.guards = some [] → Room k (A.deeper (envOfC qual (defScope st) s.heap.objs.size f cdv)) → PSs (cxOf CX0 P w K mg base N qual (defScope st) f cdv A outer s H E).nox (defBody st) T)
    (hs : SemS T t) (hb : ∀ ds Q, fn ds Q → t { nx := fun _ => Q .none, rt := fun d _ => Q d } (startD N ds)) : FnG P w K mg base (k + 1) f fd ps (spD fn) := by
  refine okG F S (fun vs H Q E h => ?_) (fun cdv A outer s H vs Q E hg0 hr h => ⟨T, hd cdv A outer s H E hg0 hr, ?_⟩)
  · obtain ⟨B, ds, Qd, _, r, h, _⟩ := h
    rw [r.length, hlen ds Qd h]
  · obtain ⟨B, ds, Qd, e, r, h, k⟩ := h
    refine hs.run (r_start e r) (hb ds Qd h) ⟨fun r g q => k _ _ _ _ r.ef g.ex r.eb g.ag .non q, fun r g q => q.elim, fun r g q => q.elim, fun r g rv q => k _ _ _ _ r.ef g.ex r.eb g.ag rv q, ?_⟩
    intro B' H' σ' ρ' p us ds' r1 g hp rx nb nf no fr q
    have g2 : Gr (fun p => H p ≠ none) B' (upd B' p (.lst us)) := Gr.share nb no
    have r2 := r1.share hp nb fr
    exact k _ _ _ _ r2.ef (g.trans g2).ex r2.eb (g.trans g2).ag (.lst upd_same (rx.up g2.ex)) q
theorem mkN {x qual : Str} {st : Stmt} {f : Addr} {fd : FuncData} {N ps : List Str} {k : Nat} (F : Fun K x qual st f fd) (S : FnScope N ps (defScope st)) {fn : DFnN} {T : TS} {t : DS} (hlen : ∀ ds Q, fn ds Q → ds.length = ps.length)
    (hd : ∀ (cdv : Value) (A : Around) (outer : List PySem.Env) (s : Shared) (H : Hp) (E : XK), A.guards = some [] → Room k (A.deeper (envOfC qual (defScope st) s.heap.objs.size f cdv)) → PSs (cxOf CX0 P w K mg base N qual (defScope st) f cdv A outer s H E).nox (defBody st) T)
    (hs : SemS T t) (hb : ∀ ds Q, fn ds Q → t { nx := fun _ => False, rt := fun d _ => False, rn := fun d _ => Q d } (startD N ds)) : FnG P w K mg base (k + 1) f fd ps (spN fn) := by
  refine okG F S (fun vs H Q E h => ?_) (fun cdv A outer s H vs Q E hg0 hr h => ⟨T, hd cdv A outer s H E hg0 hr, ?_⟩)
  · obtain ⟨B, ds, Qd, _, r, h, _⟩ := h
    rw [r.length, hlen ds Qd h]
  · obtain ⟨B, ds, Qd, e, r, h, k⟩ := h
    refine hs.run (r_start e r) (hb ds Qd h) ⟨fun r g q => q.elim, fun r g q => q.elim, fun r g q => q.elim, fun r g rv q => q.elim, ?_⟩
    intro B' H' σ' ρ' p us ds' r1 g hp rx nb nf no fr q
    refine k _ _ _ _ _ r1.ef g.ex r1.eb g.ag ?_ nb hp rx q
    cases z : H p with
    | none => rfl
    | some o => exact absurd (by rw [z]; exact fun y => nomatch y) no
/-- a promise of a new list, as one of a value -/
theorem FnG.toD {f : Addr} {fd : FuncData} {ps : List Str} {k : Nat} {fn : DFnN} (h : FnG P w K mg base k f fd ps (spN fn)) : FnG P w K mg base k f fd ps (spD fun ds Q => fn ds fun xs => Q (.list xs)) :=
  h.imp fun vs H Q E ⟨B, ds, Qd, e, r, q, k⟩ => ⟨B, ds, fun xs => Qd (.list xs), e, r, q, fun ds' p us H' B' hh bb bh ag hp nb e2 rx qd =>
    k (.list ds') (.ref p) H' (upd B' p (.lst us)) hh (bb.trans (Ex.new nb)) (bh.up2 e2) (fun q hq => by
      have ne : q ≠ p := fun z => hq (by rw [z]; exact hp)
      rw [upd_ne ne]; exact ag q hq) (.lst upd_same (rx.up (Ex.new nb))) qd⟩
theorem mkG {x qual : Str} {st : Stmt} {f : Addr} {fd : FuncData} {N ps : List Str} {k : Nat} (F : Fun K x qual st f fd) (S : FnScope N ps (defScope st)) {fn : DFnG} {T : TS} {t : DS} (hlen : ∀ gs ds Q, fn gs ds Q → ds.length + 1 = ps.length) (hN : 0 < N.length)
    (hd : ∀ (cdv : Value) (A : Around) (outer : List PySem.Env) (s : Shared) (H : Hp) (E : XK), A.guards = some [] → Room k (A.deeper (envOfC qual (defScope st) s.heap.objs.size f cdv)) → PSs (cxOf CX0 P w K mg base N qual (defScope st) f cdv A outer s H E).nox (defBody st) T)
    (hs : SemS T t) (hb : ∀ gs ds Q, fn gs ds Q → t { nx := fun ρ => ∃ gs', ρ[0]? = some (.g gs') ∧ Q .none gs', rt := fun d ρ => ∃ gs', ρ[0]? = some (.g gs') ∧ Q d gs', rn := fun ds ρ => ∃ gs', ρ[0]? = some (.g gs') ∧ Q (.list ds) gs' } (.g gs :: (ds.map Sl.d ++ List.replicate (N.length - (ds.length + 1)) .no))) : FnG P w K mg base (k + 1) f fd ps (spG fn) := by
  refine okG F S (fun vs H Q E h => ?_) (fun cdv A outer s H vs Q E hg0 hr h => ⟨T, hd cdv A outer s H E hg0 hr, ?_⟩)
  · obtain ⟨B, g, gv, gs, ws, ds, Qd, rfl, _, _, _, _, r, h, _⟩ := h
    rw [← hlen gs ds Qd h, ← r.length]; rfl
  · obtain ⟨B, g, gv, gs, ws, ds, Qd, rfl, hg, rg, nb, e, r, h, k⟩ := h
    have h0 : R (fun p => H p ≠ none) (fun p => if p = g then none else H p) B H (start N (.ref g :: ws)) (.g gs :: (ds.map Sl.d ++ List.replicate (N.length - (ds.length + 1)) .no)) := by
      have hst := r_start (N := N) e (RpL.cons (Rp.non (B := B)) r)
      refine ⟨e, fun a o ea => ?_, fun p hp => ?_, fun p hp => hp, ?_, fun i s es => ?_, fun i j si sj p ei ej oi oj e1 e2 => ?_⟩
      · by_cases z : a = g
        · simp [z] at ea
        · simpa [z] using ea
      · by_cases z : p = g
        · simp [z] at hp
        · simpa [z] using hp
      · unfold L2.start
        simp [r.length]
      · cases i with
        | zero =>
          cases es
          refine ⟨some (.ref g), by rw [start_get, if_pos (by simp)]; rfl, g, gv, rfl, hg, rg, nb, by simp, fun z => by rw [hg] at z; cases z⟩
        | succ i =>
          obtain ⟨o, e1, e2⟩ := hst.sl (i + 1) s (by
            show (startD N (PyData.none :: ds))[i + 1]? = some s
            unfold startD
            simpa using es)
          refine ⟨o, ?_, ?_⟩
          · rw [start_get] at e1 ⊢
            simpa using e1
          · have hs : s.own = false := by
              have es' : (startD N (PyData.none :: ds))[i + 1]? = some s := by
                unfold startD
                simpa using es
              rcases startD_in es' with ⟨d, _, rfl⟩ | ⟨_, _, rfl⟩ <;> rfl
            cases s with
            | no => trivial
            | d x => exact e2
            | v a u =>
              have es' : (startD N (PyData.none :: ds))[i + 1]? = some (.v a u) := by
                unfold startD
                simpa using es
              rcases startD_in es' with ⟨d, _, z⟩ | ⟨_, _, z⟩ <;> cases z
            | _ => cases hs
      · have hn : ∀ (i : Nat) (s : Sl), (Sl.g gs :: (ds.map Sl.d ++ List.replicate (N.length - (ds.length + 1)) Sl.no))[i]? = some s → s.own = true → i = 0 := fun i s es so => by
          cases i with
          | zero => rfl
          | succ i =>
            have es' : (startD N (PyData.none :: ds))[i + 1]? = some s := by
              unfold startD
              simpa using es
            rcases startD_in es' with ⟨d, _, rfl⟩ | ⟨_, _, rfl⟩ <;> cases so
        rw [hn i si ei oi, hn j sj ej oj]
    have fin : ∀ {B' H' : Hp} {σ' : L2.St} {ρ' : DEnv} {gs' : List PyData}, R (fun p => H p ≠ none) (fun p => if p = g then none else H p) B' H' σ' ρ' → ρ'[0]? = some (.g gs') → ∃ gv', H' g = some (.lst gv') ∧ RpL B' gv' gs' ∧ B' g = none ∧ ∀ p o, p ≠ g → H p = some o → H' p = some o := fun {B' H' σ' ρ' gs'} r1 e1 => by
      obtain ⟨o, e2, p, vs, rfl, e3, r3, n1, n2, n3⟩ := r1.sl _ _ e1
      have ep : p = g := by
        by_cases z : p = g
        · exact z
        · simp [z] at n2; exact absurd n2 n3
      subst ep
      exact ⟨vs, e3, r3, n1, fun q o nq hq => r1.ef q o (by simp [nq, hq])⟩
    refine hs.run h0 (hb gs ds Qd h) ⟨fun r g q => ?_, fun r g q => q.elim, fun r g q => q.elim, fun r g rv q => ?_, ?_⟩
    · obtain ⟨gs', e1, q⟩ := q
      obtain ⟨gv', a, b, c, d⟩ := fin r e1
      exact k _ gs' _ _ _ gv' d a b c g.ex r.eb g.ag .non q
    · obtain ⟨gs', e1, q⟩ := q
      obtain ⟨gv', a, b, c, d⟩ := fin r e1
      exact k _ gs' _ _ _ gv' d a b c g.ex r.eb g.ag rv q
    · intro B' H' σ' ρ' p us ds' r1 g hp rx nb nf no fr q
      obtain ⟨gs', e1, q⟩ := q
      have g2 : Gr (fun p => H p ≠ none) B' (upd B' p (.lst us)) := Gr.share nb no
      have r2 := r1.share hp nb fr
      obtain ⟨gv', a, b, c, d⟩ := fin r2 e1
      exact k _ gs' _ _ _ gv' d a b c (g.trans g2).ex r2.eb (g.trans g2).ag (.lst upd_same (rx.up g2.ex)) q
end
end DL

namespace DL
open PySem PySem.Spec PyProof.Rows L2

section
variable {X : Cx} {pins : List (Addr × Obj)} {σ : L2.St} {H : Hp} {s : Shared}
theorem key_reads {h : Heap} {k : Key} {u : Value} (e : RelV (kV k) u) : Reads h u (kD k) [] := by
  cases k with
  | inl i => obtain ⟨t, rfl⟩ := e; exact Reads.int i t
  | inr x => obtain ⟨t, rfl⟩ := e; exact Reads.str x t
theorem keys_reads {h : Heap} : ∀ {ks : List Key} {us : List Value}, Vals (ks.map kV) us → ReadsAll h us (ks.map kD) []
  | [], us, r => by cases r; exact .nil
  | k :: ks, us, r => by
    cases r with
    | cons a b => exact ReadsAll.cons (as := []) (bs := []) (key_reads a) (keys_reads b)
theorem key_of_is {P : Program} {w : World} {k : Key} {u : Value} (h : (mixKind P w).is k u = true) : RelV (kV k) u := by
  rcases keyIs_shape h with ⟨i, t, rfl, rfl⟩ | ⟨x, t, rfl, rfl⟩ <;> exact ⟨t, rfl⟩
mutual
theorem Rp.reads (I : Inv X pins σ H s) : ∀ (d : PyData) (v : V) (u : Value), Rp H v d → RelV v u → ∃ as, Reads s.heap u d as
  | .none, _, _, h, r => by
    cases h
    cases r
    exact ⟨_, Reads.none⟩
  | .bool b, _, _, h, r => by
    cases h
    cases r
    exact ⟨_, Reads.bool b⟩
  | .int i, _, _, h, r => by
    cases h
    obtain ⟨t, rfl⟩ := r
    exact ⟨_, Reads.int i t⟩
  | .str x, _, _, h, r => by
    cases h
    obtain ⟨t, rfl⟩ := r
    exact ⟨_, Reads.str x t⟩
  | .list ds, _, _, h, r => by
    cases h with
    | @lst a xs _ hs ha =>
      cases r
      obtain ⟨its, rv, ⟨o, n, ho, hc, _, hd⟩, _⟩ := I.list (SqL.of hs)
      obtain ⟨as, hr⟩ := Rp.readsAll I ds _ its ha rv
      exact ⟨_, Reads.list ho hc hd hr⟩
  | .tuple ds, _, _, h, r => by
    cases h with
    | tup hs ha =>
      cases r
      obtain ⟨its, rv, ⟨o, ho, hc, n, hd⟩, _⟩ := I.tuple (SqT.of hs)
      obtain ⟨as, hr⟩ := Rp.readsAll I ds _ its ha rv
      exact ⟨_, Reads.tuple ho hc hd hr⟩
  | .dict ds, _, _, h, r => by
    cases h with
    | @dk a o kvs _ hs ha =>
      cases r
      obtain ⟨_, _, _, vs, kv, o', es, ep, ho, hx, hdt, _, hp, _⟩ := (show ObjOk X.prog X.w H s.heap a (.frz o (.dK kvs)) from I.hok a _ hs)
      obtain ⟨h1, bs, h2⟩ := Rp.readsK I ds _ vs es.toList ha kv hp
      exact ⟨_, Reads.dict ho hx.1 hdt h1 h2⟩
    | @dt a o kvs _ hs ha =>
      cases r
      obtain ⟨_, _, _, xs, pr, o', es, ep, ho, hx, hdt, he, _⟩ := (show ObjOk X.prog X.w H s.heap a (.frz o (.dT kvs)) from I.hok a _ hs)
      obtain ⟨h1, bs, h2⟩ := Rp.readsT I ds _ xs ha pr
      refine ⟨_, Reads.dict (as := []) (bs := bs) ho hx.1 hdt ?_ ?_⟩
      · rw [he, List.map_map]; exact h1
      · rw [he, List.map_map]; exact h2
theorem Rp.readsAll (I : Inv X pins σ H s) : ∀ (ds : List PyData) (vs : List V) (us : List Value), RpL H vs ds → Vals vs us → ∃ as, ReadsAll s.heap us ds as
  | [], _, _, h, r => by
    cases h
    cases r
    exact ⟨_, .nil⟩
  | d :: ds, _, _, h, r => by
    cases h with
    | cons a rest =>
      cases r with
      | cons r1 r2 =>
        obtain ⟨as, h1⟩ := Rp.reads I d _ _ a r1
        obtain ⟨bs, h2⟩ := Rp.readsAll I ds _ _ rest r2
        exact ⟨_, .cons h1 h2⟩
theorem Rp.readsK (I : Inv X pins σ H s) : ∀ (ds : List (PyData × PyData)) (kvs : List (Key × V)) (vs : List (Key × Value)) (es : List DictEntry), RpK H kvs ds → KV kvs vs → Pairs (mixKind X.prog X.w) es vs →
    ReadsAll s.heap (es.map (·.key)) (ds.map (·.1)) [] ∧ ∃ bs, ReadsAll s.heap (es.map (·.val)) (ds.map (·.2)) bs
  | [], _, _, _, h, r, p => by
    cases h
    cases r
    cases p
    exact ⟨.nil, _, .nil⟩
  | (kd, d) :: ds, _, _, _, h, r, p => by
    cases h with
    | cons a rest =>
      cases r with
      | cons r1 r2 =>
        cases p with
        | cons p1 p2 p3 =>
          obtain ⟨as, h1⟩ := Rp.reads I d _ _ a r1.2
          obtain ⟨h3, bs, h4⟩ := Rp.readsK I ds _ _ _ rest r2 p3
          obtain ⟨e1, e2⟩ := r1
          rw [← e1] at p1
          refine ⟨ReadsAll.cons (as := []) (bs := []) (key_reads (key_of_is p1)) h3, as ++ bs, ReadsAll.cons (?_ : Reads s.heap _ d as) h4⟩
          show Reads s.heap (DictEntry.val _) d as
          rw [p2]; exact h1
theorem Rp.readsT (I : Inv X pins σ H s) : ∀ (ds : List (PyData × PyData)) (kvs : List (List Key × V)) (xs : List (List Key × Addr × Value)), RpT H kvs ds →
    Paired (fun (p : List Key × V) (q : List Key × Addr × Value) => p.1 = q.1 ∧ H q.2.1 = some (.tup (p.1.map kV)) ∧ RelV p.2 q.2.2) kvs xs →
    ReadsAll s.heap (xs.map fun x => Value.ref x.2.1) (ds.map (·.1)) [] ∧ ∃ bs, ReadsAll s.heap (xs.map fun x => x.2.2) (ds.map (·.2)) bs
  | [], _, _, h, p => by
    cases h
    cases p
    exact ⟨.nil, _, .nil⟩
  | (kd, d) :: ds, _, _, h, p => by
    cases h with
    | cons a rest =>
      cases p with
      | cons p1 p2 =>
        obtain ⟨e1, e2, e3⟩ := p1
        obtain ⟨as, h1⟩ := Rp.reads I d _ _ a e3
        obtain ⟨h3, bs, h4⟩ := Rp.readsT I ds _ _ rest p2
        obtain ⟨its, rv, ⟨o, ho, hc, n, hd⟩, _⟩ := I.tuple (SqT.of e2)
        exact ⟨ReadsAll.cons (as := []) (bs := []) (Reads.tuple ho hc hd (keys_reads rv)) h3, _, .cons h1 h4⟩
end
end

section
variable {X : Cx}
def rAddD : R2 := fun x y H Q => (∃ i j, x = .int i ∧ y = .int j ∧ Q (.int (i + j)) H) ∨ (∃ i j, x = .str i ∧ y = .str j ∧ i.length + j.length ≤ sizeLine ∧ Q (.str (i ++ j)) H) ∨ rCat x y H Q ∨
  ∃ a b xs ys, x = .ref a ∧ y = .ref b ∧ H a = some (.tup xs) ∧ H b = some (.tup ys) ∧ xs.length + ys.length ≤ sizeLine ∧ (xs = [] → Q (.ref b) H) ∧ (xs ≠ [] → ys = [] → Q (.ref a) H) ∧ (xs ≠ [] → ys ≠ [] → ∀ p, H p = none → Q (.ref p) (upd H p (.tup (xs ++ ys))))
theorem OpR.of {f : Value → Value → Sem Value} {r r' : R2} (h : OpR X f r) (k : ∀ x y H Q, r' x y H Q → r x y H Q) : OpR X f r' := fun pins s σ H x y v u Q I rx ry q => h pins s σ H x y v u Q I rx ry (k _ _ _ _ q)
theorem opr_add : OpR X (binaryOp .Add) rAddD := OpR.of (op_add.or (op_add_str.or (op_cat.or op_catA))) fun x y H Q h => by
  rcases h with h | h | h | ⟨a, b, xs, ys, e1, e2, h1, h2, h⟩
  · exact .inl h
  · exact .inr (.inl h)
  · exact .inr (.inr (.inl h))
  · exact .inr (.inr (.inr ⟨a, b, xs, ys, e1, e2, .of h1, .of h2, h⟩))
def dAdd : D2 := fun x y Q => match x, y with
  | .int i, .int j => Q (.int (i + j))
  | .str i, .str j => i.length + j.length ≤ sizeLine ∧ Q (.str (i ++ j))
  | .list a, .list b => a.length + b.length ≤ sizeLine ∧ Q (.list (a ++ b))
  | .tuple a, .tuple b => a.length + b.length ≤ sizeLine ∧ Q (.tuple (a ++ b))
  | _, _ => False
instance op2Add : Op2 rAddD dAdd where
  run := by
    intro O F B H σ ρ x y dx dy Q Q' h rx ry q k
    unfold dAdd at q
    split at q
    · cases rx; cases ry
      exact .inl ⟨_, _, rfl, rfl, k _ _ _ _ h .refl (.int _) q⟩
    · cases rx; cases ry
      exact .inr (.inl ⟨_, _, rfl, rfl, q.1, k _ _ _ _ h .refl (.str _) q.2⟩)
    · cases rx with
      | lst e r =>
        cases ry with
        | lst e' r' =>
          exact .inr (.inr (.inl ⟨_, _, _, _, rfl, rfl, h.eb _ _ e, h.eb _ _ e', by rw [r.length, r'.length]; exact q.1, fun p hp => k _ _ _ _ (h.new hp) (Gr.new h hp) (.lst upd_same ((r.append r').up (Ex.new (h.eb.free hp)))) q.2⟩))
    · rename_i a b
      cases rx with
      | tup e r =>
        cases ry with
        | tup e' r' =>
          refine .inr (.inr (.inr ⟨_, _, _, _, rfl, rfl, h.eb _ _ e, h.eb _ _ e', by rw [r.length, r'.length]; exact q.1, fun z => ?_, fun z1 z2 => ?_, fun z1 z2 p hp => k _ _ _ _ (h.new hp) (Gr.new h hp) (.tup upd_same ((r.append r').up (Ex.new (h.eb.free hp)))) q.2⟩))
          · subst z
            cases r
            exact k _ _ _ _ h .refl (.tup e' r') q.2
          · subst z2
            cases r'
            have q2 := q.2
            rw [List.append_nil] at q2
            exact k _ _ _ _ h .refl (.tup e r) q2
    · exact q.elim
/-- ints -/
def dI (C : Int → Int → Prop) (g : Int → Int → PyData) : D2 := fun x y Q => match x, y with
  | .int i, .int j => C i j ∧ Q (g i j)
  | _, _ => False
def vI (g : Int → Int → Int) : Int → Int → PyData := fun i j => .int (g i j)
def vB (g : Int → Int → Bool) : Int → Int → PyData := fun i j => .bool (g i j)
theorem dI_run {C : Int → Int → Prop} {g : Int → Int → PyData} {gv : Int → Int → V} (hg : ∀ B i j, Rp B (gv i j) (g i j)) {O : Addr → Prop} {F B H : Hp} {σ : L2.St} {ρ : DEnv} {x y : V} {dx dy : PyData} {Q : PyData → Prop} {Q' : VK} (h : R O F B H σ ρ) (rx : Rp B x dx) (ry : Rp B y dy) (q : dI C g dx dy Q)
    (k : ∀ v H' B' d, R O F B' H' σ ρ → Gr O B B' → Rp B' v d → Q d → Q' v H') : rI C gv x y H Q' := by
  unfold dI at q
  split at q
  · cases rx; cases ry
    exact ⟨_, _, rfl, rfl, q.1, k _ _ _ _ h .refl (hg _ _ _) q.2⟩
  · exact q.elim
theorem dI_run0 {g : Int → Int → PyData} {gv : Int → Int → V} (hg : ∀ B i j, Rp B (gv i j) (g i j)) {O : Addr → Prop} {F B H : Hp} {σ : L2.St} {ρ : DEnv} {x y : V} {dx dy : PyData} {Q : PyData → Prop} {Q' : VK} (h : R O F B H σ ρ) (rx : Rp B x dx) (ry : Rp B y dy) (q : dI (fun _ _ => True) g dx dy Q)
    (k : ∀ v H' B' d, R O F B' H' σ ρ → Gr O B B' → Rp B' v d → Q d → Q' v H') : rI0 gv x y H Q' := by
  unfold dI at q
  split at q
  · cases rx; cases ry
    exact ⟨_, _, rfl, rfl, k _ _ _ _ h .refl (hg _ _ _) q.2⟩
  · exact q.elim
def rSubD : R2 := rI0 fun i j => .int (i - j)
def CDivG (i j : Int) : Prop := j ≠ 0 ∧ j.natAbs.log2 < 9000
def rFdivD : R2 := rI CDivG fun i j => .int (i.fdiv j)
def rModD : R2 := rI (fun _ j => 0 < j) fun i j => .int (i % j)
def rPowD : R2 := rI CPow fun i j => .int (i ^ j.toNat)
theorem opr_sub : OpR X (binaryOp .Sub) rSubD := op_sub
theorem opr_fdiv : OpR X (binaryOp .FloorDiv) rFdivD := opI fun i j _ _ _ _ _ hc q => floordiv_int hc.1 q (.inl (PyProof.noPylong_of_log2 hc.2))
theorem opr_mod : OpR X (binaryOp .Mod) rModD := op_mod
theorem opr_pow : OpR X (binaryOp .Pow) rPowD := op_pow
def dSub : D2 := dI (fun _ _ => True) (vI fun i j => i - j)
def dFdiv : D2 := dI CDivG (vI fun i j => i.fdiv j)
def dMod : D2 := dI (fun _ j => 0 < j) (vI fun i j => i % j)
def dPow : D2 := dI CPow (vI fun i j => i ^ j.toNat)
instance op2Sub : Op2 rSubD dSub where
  run := fun h rx ry q k => dI_run0 (fun _ _ _ => .int _) h rx ry q k
instance op2Fdiv : Op2 rFdivD dFdiv where
  run := fun h rx ry q k => dI_run (fun _ _ _ => .int _) h rx ry q k
instance op2Mod : Op2 rModD dMod where
  run := fun h rx ry q k => dI_run (fun _ _ _ => .int _) h rx ry q k
instance op2Pow : Op2 rPowD dPow where
  run := fun h rx ry q k => dI_run (fun _ _ _ => .int _) h rx ry q k
/-- products: ints, a list or a text some times -/
def rStrMul : R2 := fun x y H Q => ∃ z n, x = .str z ∧ y = .int n ∧ MulOk z n ∧ Q (.str (Txt.mul z n)) H
theorem op_strMul : OpR X (binaryOp .Mult) rStrMul := by
  intro pins s σ H x y v u Q I rx ry h
  obtain ⟨z, n, rfl, rfl, hok, q⟩ := h
  obtain ⟨t, rfl⟩ := rx
  obtain ⟨t', rfl⟩ := ry
  exact SB.mul hok fun t2 k => ⟨.str _, H, I.tok k, ⟨t2, rfl⟩, q⟩
def CMulA (i j : Int) : Prop := CMul i j ∨ CMulX i j
theorem op_mulA : OpR X (binaryOp .Mult) (rI CMulA fun i j => .int (i * j)) := OpR.of (op_mul.or op_mulX) fun x y H Q ⟨i, j, e1, e2, c, q⟩ => c.elim (fun c => .inl ⟨i, j, e1, e2, c, q⟩) fun c => .inr ⟨i, j, e1, e2, c, q⟩
def rMulD : R2 := fun x y H Q => rI CMulA (fun i j => .int (i * j)) x y H Q ∨ rRep x y H Q ∨ rStrMul x y H Q
theorem opr_mul : OpR X (binaryOp .Mult) rMulD := op_mulA.or (op_rep.or op_strMul)
def repD (k : Nat) (xs : List PyData) : List PyData := (List.replicate k xs).flatten
theorem RpL.rep {B : Hp} {vs : List V} {ds : List PyData} (h : RpL B vs ds) : ∀ k : Nat, RpL B (List.replicate k vs).flatten (repD k ds)
  | 0 => .nil
  | k + 1 => by
    unfold repD
    rw [List.replicate_succ, List.replicate_succ, List.flatten_cons, List.flatten_cons]
    exact h.append (RpL.rep h k)
def dMul : D2 := fun x y Q => match x, y with
  | .int i, .int j => CMulA i j ∧ Q (.int (i * j))
  | .list a, .int k => (-(2 ^ 63) ≤ k ∧ k < 2 ^ 63 ∧ a.length * k.toNat ≤ sizeLine) ∧ Q (.list (repD k.toNat a))
  | .str z, .int n => MulOk z n ∧ Q (.str (Txt.mul z n))
  | _, _ => False
instance op2Mul : Op2 rMulD dMul where
  run := by
    intro O F B H σ ρ x y dx dy Q Q' h rx ry q k
    unfold dMul at q
    split at q
    · cases rx; cases ry
      exact .inl ⟨_, _, rfl, rfl, q.1, k _ _ _ _ h .refl (.int _) q.2⟩
    · cases ry
      cases rx with
      | lst e r =>
        exact .inr (.inl ⟨_, _, _, rfl, rfl, h.eb _ _ e, q.1.1, q.1.2.1, by rw [r.length]; exact q.1.2.2, fun p hp => k _ _ _ _ (h.new hp) (Gr.new h hp) (.lst upd_same ((r.rep _).up (Ex.new (h.eb.free hp)))) q.2⟩)
    · cases rx; cases ry
      exact .inr (.inr ⟨_, _, rfl, rfl, q.1, k _ _ _ _ h .refl (.str _) q.2⟩)
    · exact q.elim
def rNegD : V → Hp → VK → Prop := rU fun i => .int (-i)
theorem unr_neg : UnR X (unaryOp .USub) rNegD := un_neg
def dNeg : D1 := fun x Q => match x with
  | .int i => Q (.int (-i))
  | _ => False
instance op1Neg : Op1 rNegD dNeg where
  run := by
    intro O F B H σ ρ x dx Q Q' h rx q k
    unfold dNeg at q
    split at q
    · cases rx
      exact ⟨_, rfl, k _ _ _ _ h .refl (.int _) q⟩
    · exact q.elim

def rLtD : R2 := fun x y H Q => rI0 (fun i j => .bl (decide (i < j))) x y H Q ∨ ∃ i j, x = .str i ∧ y = .str j ∧ Q (.bl (decide (i.cps.toList < j.cps.toList))) H
def rLeD : R2 := fun x y H Q => rI0 (fun i j => .bl (decide (i ≤ j))) x y H Q ∨ ∃ i j, x = .str i ∧ y = .str j ∧ Q (.bl (!decide (j.cps.toList < i.cps.toList))) H
def rGtD : R2 := fun x y H Q => rI0 (fun i j => .bl (decide (j < i))) x y H Q ∨ ∃ i j, x = .str i ∧ y = .str j ∧ Q (.bl (decide (j.cps.toList < i.cps.toList))) H
def rGeD : R2 := fun x y H Q => rI0 (fun i j => .bl (decide (j ≤ i))) x y H Q ∨ ∃ i j, x = .str i ∧ y = .str j ∧ Q (.bl (!decide (i.cps.toList < j.cps.toList))) H
theorem opr_lt : OpR X (compareOp .Lt) rLtD := op_lt.or op_lt_str
theorem opr_le : OpR X (compareOp .LtE) rLeD := op_le.or op_le_str
theorem opr_gt : OpR X (compareOp .Gt) rGtD := op_gt.or op_gt_str
theorem opr_ge : OpR X (compareOp .GtE) rGeD := op_ge.or op_ge_str
def strLt (i j : Str) : Bool := decide (i.cps.toList < j.cps.toList)
def dOrd (f : Int → Int → Bool) (g : Str → Str → Bool) : D2 := fun x y Q => match x, y with
  | .int i, .int j => Q (.bool (f i j))
  | .str i, .str j => Q (.bool (g i j))
  | _, _ => False
theorem dOrd_run {f : Int → Int → Bool} {g : Str → Str → Bool} {O : Addr → Prop} {F B H : Hp} {σ : L2.St} {ρ : DEnv} {x y : V} {dx dy : PyData} {Q : PyData → Prop} {Q' : VK} (h : R O F B H σ ρ) (rx : Rp B x dx) (ry : Rp B y dy) (q : dOrd f g dx dy Q)
    (k : ∀ v H' B' d, R O F B' H' σ ρ → Gr O B B' → Rp B' v d → Q d → Q' v H') : rI0 (fun i j => .bl (f i j)) x y H Q' ∨ ∃ i j, x = .str i ∧ y = .str j ∧ Q' (.bl (g i j)) H := by
  unfold dOrd at q
  split at q
  · cases rx; cases ry
    exact .inl ⟨_, _, rfl, rfl, k _ _ _ _ h .refl (.bl _) q⟩
  · cases rx; cases ry
    exact .inr ⟨_, _, rfl, rfl, k _ _ _ _ h .refl (.bl _) q⟩
  · exact q.elim
def dLt : D2 := dOrd (fun i j => decide (i < j)) strLt
def dLe : D2 := dOrd (fun i j => decide (i ≤ j)) fun i j => !strLt j i
def dGt : D2 := dOrd (fun i j => decide (j < i)) fun i j => strLt j i
def dGe : D2 := dOrd (fun i j => decide (j ≤ i)) fun i j => !strLt i j
instance op2Lt : Op2 rLtD dLt where
  run := fun h rx ry q k => dOrd_run h rx ry q k
instance op2Le : Op2 rLeD dLe where
  run := fun h rx ry q k => dOrd_run h rx ry q k
instance op2Gt : Op2 rGtD dGt where
  run := fun h rx ry q k => dOrd_run h rx ry q k
instance op2Ge : Op2 rGeD dGe where
  run := fun h rx ry q k => dOrd_run h rx ry q k
/-- equal data -/
theorem shaped_lay {d : PyData} (h : SeqAt.shaped d = true) : d.canLay0 = true ∧ d.depth ≤ 64 := by
  have h' : (d.canLay0 && decide (d.depth ≤ 64)) = true := h
  rw [Bool.and_eq_true] at h'
  exact ⟨h'.1, of_decide_eq_true h'.2⟩
mutual
theorem Rp.dp {K : PySem.W.Frag} {H : Hp} : ∀ (d : PyData) (v : V), d.canLay0 = true → Rp H v d → Dp K H v d
  | .none, _, _, h => by cases h; exact .non
  | .bool b, _, _, h => by cases h; exact .bl b
  | .int i, _, _, h => by cases h; exact .int i
  | .str x, _, _, h => by cases h; exact .str x
  | .list ds, _, c, h => by
    cases h with
    | lst e r => exact .lst (SqL.of e) (Rp.dps ds _ (by simpa [PyData.canLay0] using c) r)
  | .tuple ds, _, c, h => by
    cases h with
    | tup e r => exact .tup (SqT.of e) (Rp.dps ds _ (by simpa [PyData.canLay0] using c) r)
  | .dict _, _, c, _ => by simp [PyData.canLay0] at c
theorem Rp.dps {K : PySem.W.Frag} {H : Hp} : ∀ (ds : List PyData) (vs : List V), PyData.canLayAll0 ds = true → RpL H vs ds → DpAll K H vs ds
  | [], _, _, h => by cases h; exact .nil
  | d :: ds, _, c, h => by
    cases h with
    | cons a r =>
      have c' : d.canLay0 = true ∧ PyData.canLayAll0 ds = true := by simpa [PyData.canLayAll0] using c
      exact .cons (Rp.dp d _ c'.1 a) (Rp.dps ds _ c'.2 r)
end
def eqOk (x y : PyData) : Prop := (SeqAt.shaped x = true ∧ SeqAt.shaped y = true) ∨ ∃ a b, x = .str a ∧ y = .str b
theorem eqv_strs (a b : Str) : PyData.eqv (.str a) (.str b) = decide (a = b) := by
  rw [Bool.eq_iff_iff]
  simp [PyData.eqv]
def rEqX : R2 := fun x y H Q => ∃ d e, Rp H x d ∧ Rp H y e ∧ eqOk d e ∧ Q (.bl (PyData.eqv d e)) H
def rNeX : R2 := fun x y H Q => ∃ d e, Rp H x d ∧ Rp H y e ∧ eqOk d e ∧ Q (.bl (!PyData.eqv d e)) H
theorem opr_eq (hu : X.A.units + 64 < cLine) : OpR X (compareOp .Eq) rEqX := OpR.of ((op_eqD hu).or op_eq) fun x y H Q ⟨d, e, h1, h2, ok, q⟩ => by
  rcases ok with ⟨s1, s2⟩ | ⟨a, b, rfl, rfl⟩
  · exact .inl ⟨d, e, Rp.dp d x (shaped_lay s1).1 h1, Rp.dp e y (shaped_lay s2).1 h2, s1, s2, q⟩
  · cases h1; cases h2
    rw [eqv_strs] at q
    refine .inr ⟨rfl, ?_⟩
    have : decide (V.str a = V.str b) = decide (a = b) := by rw [Bool.eq_iff_iff]; simp
    rw [this]; exact q
theorem opr_ne (hu : X.A.units + 64 < cLine) : OpR X (compareOp .NotEq) rNeX := OpR.of ((op_neD hu).or op_ne) fun x y H Q ⟨d, e, h1, h2, ok, q⟩ => by
  rcases ok with ⟨s1, s2⟩ | ⟨a, b, rfl, rfl⟩
  · exact .inl ⟨d, e, Rp.dp d x (shaped_lay s1).1 h1, Rp.dp e y (shaped_lay s2).1 h2, s1, s2, q⟩
  · cases h1; cases h2
    rw [eqv_strs] at q
    refine .inr ⟨rfl, ?_⟩
    have : decide (V.str a = V.str b) = decide (a = b) := by rw [Bool.eq_iff_iff]; simp
    rw [this]; exact q
def dEq : D2 := fun x y Q => eqOk x y ∧ Q (.bool (PyData.eqv x y))
def dNe : D2 := fun x y Q => eqOk x y ∧ Q (.bool (!PyData.eqv x y))
instance op2Eq : Op2 rEqX dEq where
  run := fun h rx ry q k => ⟨_, _, rx.up h.eb, ry.up h.eb, q.1, k _ _ _ _ h .refl (.bl _) q.2⟩
instance op2Ne : Op2 rNeX dNe where
  run := fun h rx ry q k => ⟨_, _, rx.up h.eb, ry.up h.eb, q.1, k _ _ _ _ h .refl (.bl _) q.2⟩
/-- x in a list of data, a sign in a text -/
def rInX (neg : Bool) : R2 := fun x y H Q => (∃ d ds, Rp H x d ∧ Rp H y (.list ds) ∧ SeqAt.shaped d = true ∧ SeqAt.shaped (.list ds) = true ∧ Q (.bl (if neg then !ds.any fun z => PyData.eqv z d else ds.any fun z => PyData.eqv z d)) H) ∨
  (∃ (c : Nat) (z : Str), x = .str ⟨#[c]⟩ ∧ y = .str z ∧ Q (.bl (if neg then !decide (c ∈ z.cps.toList) else decide (c ∈ z.cps.toList))) H)
theorem opr_in (hu : X.A.units + 65 < cLine) : OpR X (compareOp .In) (rInX false) := OpR.of ((op_inD hu).or op_in_sign) fun x y H Q h => by
  rcases h with ⟨d, ds, h1, h2, s1, s2, q⟩ | ⟨c, z, e1, e2, q⟩
  · exact .inl ⟨d, ds, Rp.dp d x (shaped_lay s1).1 h1, Rp.dp _ y (shaped_lay s2).1 h2, s1, s2, by simpa using q⟩
  · exact .inr ⟨c, z, e1, e2, by simpa using q⟩
theorem opr_nin (hu : X.A.units + 65 < cLine) : OpR X (compareOp .NotIn) (rInX true) := OpR.of ((op_notInD hu).or op_notIn_sign) fun x y H Q h => by
  rcases h with ⟨d, ds, h1, h2, s1, s2, q⟩ | ⟨c, z, e1, e2, q⟩
  · exact .inl ⟨d, ds, Rp.dp d x (shaped_lay s1).1 h1, Rp.dp _ y (shaped_lay s2).1 h2, s1, s2, by simpa using q⟩
  · exact .inr ⟨c, z, e1, e2, by simpa using q⟩
def inD (x : PyData) (ds : List PyData) : Bool := ds.any fun z => PyData.eqv z x
def dIn (neg : Bool) : D2 := fun x y Q => match y with
  | .list ds => (SeqAt.shaped x = true ∧ SeqAt.shaped (.list ds) = true) ∧ Q (.bool (if neg then !inD x ds else inD x ds))
  | .str z => ∃ c, x = .str ⟨#[c]⟩ ∧ Q (.bool (if neg then !decide (c ∈ z.cps.toList) else decide (c ∈ z.cps.toList)))
  | _ => False
instance op2In (neg : Bool) : Op2 (rInX neg) (dIn neg) where
  run := by
    intro O F B H σ ρ x y dx dy Q Q' h rx ry q k
    unfold dIn at q
    split at q
    · exact .inl ⟨_, _, rx.up h.eb, ry.up h.eb, q.1.1, q.1.2, k _ _ _ _ h .refl (.bl _) q.2⟩
    · obtain ⟨c, rfl, q⟩ := q
      cases rx; cases ry
      exact .inr ⟨c, _, rfl, rfl, k _ _ _ _ h .refl (.bl _) q⟩
    · exact q.elim
/-- is None, is a bool -/
def rIsX : R2 := fun x y H Q => (y = .non ∧ Q (.bl (decide (x = .non))) H) ∨ rIsB x y H Q ∨ (∃ a b, x = .ref a ∧ y = .bl b ∧ Q (.bl false) H) ∨ (∃ i b, x = .int i ∧ y = .bl b ∧ Q (.bl false) H) ∨ (∃ i b, x = .str i ∧ y = .bl b ∧ Q (.bl false) H) ∨ ∃ b, x = .non ∧ y = .bl b ∧ Q (.bl false) H
theorem is_off {v u : Value} {pins : List (Addr × Obj)} {s : Shared} {σ : L2.St} {H : Hp} {Q : VK} (I : Inv X pins σ H s) (q : Q (.bl false) H) (h : wpAny (model X.prog X.w) X.A (compareOp .Is v u) (EP X pins σ Q) X.xe s) : wpAny (model X.prog X.w) X.A (compareOp .Is v u) (EP X pins σ Q) X.xe s := h
theorem opr_is : OpR X (compareOp .Is) rIsX := by
  intro pins s σ H x y v u Q I rx ry h
  rcases h with h | h | ⟨a, b, rfl, rfl, q⟩ | ⟨i, b, rfl, rfl, q⟩ | ⟨i, b, rfl, rfl, q⟩ | ⟨b, rfl, rfl, q⟩
  · exact op_isN pins s σ H x y v u Q I rx ry h
  · exact op_isBl pins s σ H x y v u Q I rx ry h
  · cases rx; cases ry
    exact wpAny_is_other rfl (fun z => nomatch z) ⟨.bl false, H, I, rfl, q⟩
  · obtain ⟨t, rfl⟩ := rx
    cases ry
    exact wpAny_is_other rfl (fun z => nomatch z) ⟨.bl false, H, I, rfl, q⟩
  · obtain ⟨t, rfl⟩ := rx
    cases ry
    exact wpAny_is_other rfl (fun z => nomatch z) ⟨.bl false, H, I, rfl, q⟩
  · cases rx; cases ry
    exact wpAny_is_other rfl (fun z => nomatch z) ⟨.bl false, H, I, rfl, q⟩
def isD (x y : PyData) : Option Bool := match y with
  | .none => some (match x with
    | .none => true
    | _ => false)
  | .bool b => some (match x with
    | .bool a => decide (a = b)
    | _ => false)
  | _ => none
def dIs : D2 := fun x y Q => match isD x y with
  | some b => Q (.bool b)
  | none => False
instance op2Is : Op2 rIsX dIs where
  run := by
    intro O F B H σ ρ x y dx dy Q Q' h rx ry q k
    unfold dIs at q
    cases ry with
    | non =>
      refine .inl ⟨rfl, k _ _ _ _ h .refl (.bl _) (?_ : Q (.bool (decide (x = V.non))))⟩
      cases rx <;> exact q
    | bl b =>
      cases rx with
      | bl a => exact .inr (.inl ⟨a, b, rfl, rfl, k _ _ _ _ h .refl (.bl _) q⟩)
      | non => exact .inr (.inr (.inr (.inr (.inr ⟨b, rfl, rfl, k _ _ _ _ h .refl (.bl _) q⟩))))
      | int i => exact .inr (.inr (.inr (.inl ⟨i, b, rfl, rfl, k _ _ _ _ h .refl (.bl _) q⟩)))
      | str i => exact .inr (.inr (.inr (.inr (.inl ⟨i, b, rfl, rfl, k _ _ _ _ h .refl (.bl _) q⟩))))
      | lst e r => exact .inr (.inr (.inl ⟨_, b, rfl, rfl, k _ _ _ _ h .refl (.bl _) q⟩))
      | tup e r => exact .inr (.inr (.inl ⟨_, b, rfl, rfl, k _ _ _ _ h .refl (.bl _) q⟩))
      | dk e r => exact .inr (.inr (.inl ⟨_, b, rfl, rfl, k _ _ _ _ h .refl (.bl _) q⟩))
      | dt e r => exact .inr (.inr (.inl ⟨_, b, rfl, rfl, k _ _ _ _ h .refl (.bl _) q⟩))
    | _ => exact q.elim
def rIsNotX : R2 := fun x y H Q => y = .non ∧ Q (.bl (!decide (x = .non))) H
theorem opr_isnot : OpR X (compareOp .IsNot) rIsNotX := op_notN
def dIsNot : D2 := fun x y Q => match y with
  | .none => Q (.bool (match x with
    | .none => false
    | _ => true))
  | _ => False
instance op2IsNot : Op2 rIsNotX dIsNot where
  run := by
    intro O F B H σ ρ x y dx dy Q Q' h rx ry q k
    unfold dIsNot at q
    cases ry with
    | non =>
      refine ⟨rfl, k _ _ _ _ h .refl (.bl _) (?_ : Q (.bool (!decide (x = V.non))))⟩
      cases rx <;> exact q
    | _ => exact q.elim
end
end DL

namespace DL
open PySem PySem.Spec PyProof.Rows L2

def dChain (f g : D2) (a b c : DE) : DE := fun ρ Q => a ρ fun x ρ1 => b ρ1 fun y ρ2 => f x y fun z => match z with
  | .bool true => c ρ2 fun w ρ3 => g y w fun r => Q r ρ3
  | .bool false => Q (.bool false) ρ2
  | _ => False
instance semChain (r r' : R2) (Ta Tb Tc : TE) (f g : D2) (a b c : DE) [i1 : SemE Ta a] [i2 : SemE Tb b] [i3 : SemE Tc c] [o1 : Op2 r f] [o2 : Op2 r' g] : SemE (tChain r r' Ta Tb Tc) (dChain f g a b c) where
  run := by
    intro O F B H σ ρ Q Q' h q k
    refine i1.run h q fun x H1 B1 ρ1 dx h1 g1 rx q1 => i2.run h1 q1 fun y H2 B2 ρ2 dy h2 g2 ry q2 => o1.run h2 (rx.up g2.ex) ry q2 fun z H3 B3 dz h3 g3 rz q3 => ?_
    cases rz with
    | bl b =>
      refine ⟨b, rfl, ?_⟩
      cases b with
      | true =>
        rw [if_pos rfl]
        exact i3.run h3 q3 fun w H4 B4 ρ4 dw h4 g4 rw' q4 => o2.run h4 (ry.up (g3.trans g4).ex) rw' q4 fun v H5 B5 d h5 g5 rv q5 => k v H5 B5 ρ4 d h5 ((((g1.trans g2).trans g3).trans g4).trans g5) rv q5
      | false =>
        rw [if_neg Bool.false_ne_true]
        exact k _ _ _ _ _ h3 ((g1.trans g2).trans g3) (.bl false) q3
    | _ => exact q3.elim

abbrev DL1 := List PyData → (PyData → Prop) → Prop
abbrev DLN := List PyData → (List PyData → Prop) → Prop
class CallD (r : List V → Hp → VK → Prop) (f : outParam DL1) : Prop where
  run : ∀ {O : Addr → Prop} {F B H : Hp} {σ : L2.St} {ρ : DEnv} {xs : List V} {ds : List PyData} {Q : PyData → Prop} {Q' : VK}, R O F B H σ ρ → RpL B xs ds → f ds Q →
    (∀ v H' B' d, R O F B' H' σ ρ → Gr O B B' → Rp B' v d → Q d → Q' v H') → r xs H Q'
class CallN (r : List V → Hp → VK → Prop) (f : outParam DLN) : Prop where
  run : ∀ {O : Addr → Prop} {F B H : Hp} {σ : L2.St} {ρ : DEnv} {xs : List V} {ds : List PyData} {Q : List PyData → Prop} {Q' : VK}, R O F B H σ ρ → RpL B xs ds → f ds Q →
    (∀ p us es, H p = none → RpL B us es → Q es → Q' (.ref p) (upd H p (.lst us))) → r xs H Q'
def dCB (f : DL1) (a : DA) : DE := fun ρ Q => a ρ fun ds ρ1 => f ds fun d => Q d ρ1
def dCBN (f : DLN) (a : DA) : DA := fun ρ Q => a ρ fun ds ρ1 => f ds fun d => Q d ρ1
instance semCB (r : List V → Hp → VK → Prop) (Ta : TA) (f : DL1) (a : DA) [i1 : SemA Ta a] [i2 : CallD r f] : SemE (tCB r Ta) (dCB f a) where
  run := fun h q k => i1.run h q fun vs H1 B1 ρ1 ds h1 g1 r1 q1 => i2.run h1 r1 q1 fun v H2 B2 d h2 g2 rv q2 => k v H2 B2 ρ1 d h2 (g1.trans g2) rv q2
instance semCBN (r : List V → Hp → VK → Prop) (Ta : TA) (f : DLN) (a : DA) [i1 : SemA Ta a] [i2 : CallN r f] : SemN (tCB r Ta) (dCBN f a) where
  run := fun h q k => i1.run h q fun vs H1 B1 ρ1 ds h1 g1 r1 q1 => i2.run h1 r1 q1 fun p us es hp rr q2 =>
    k p us es _ _ _ (h1.newO hp) g1 upd_same rr (h1.eb.free hp) (h1.ef.free hp) (fun o => h1.od p o hp) (h1.free_new hp) q2
section
variable {X : Cx}
theorem CallR.of {f : Value} {r r' : List V → Hp → VK → Prop} (h : CallR X f r) (k : ∀ xs H Q, r' xs H Q → r xs H Q) : CallR X f r' := fun pins s σ H xs us Q I rx q => h pins s σ H xs us Q I rx (k _ _ _ q)
theorem PE.of {e : Expr} {t t' : TE} (h : PE X e t) (k : ∀ σ H Q, t' σ H Q → t σ H Q) : PE X e t' := ⟨fun pins s σ H Q I q => h.run pins s σ H Q I (k _ _ _ q)⟩
theorem PS.of {e : Stmt} {t t' : TS} (h : PS X e t) (k : ∀ D σ H, t' D σ H → t D σ H) : PS X e t' := ⟨fun pins s σ H D I q => h.run pins s σ H D I (k _ _ _ q)⟩

def dLen : DL1 := fun xs Q => match xs with
  | [.list ds] => Q (.int ds.length)
  | [.tuple ds] => Q (.int ds.length)
  | [.str z] => z.length ≤ sizeLine ∧ Q (.int z.length)
  | [.dict kvs] => Q (.int kvs.length)
  | _ => False
/-- .. of an own list, left the own one -/
def rLenV : List V → Hp → VK → Prop := fun xs H Q => (∃ p us, xs = [.ref p] ∧ H p = some (.lst us) ∧ Q (.int us.length) H) ∨ (∃ p us, xs = [.ref p] ∧ H p = some (.tup us) ∧ Q (.int us.length) H) ∨ (∃ z, xs = [.str z] ∧ z.length ≤ sizeLine ∧ Q (.int z.length) H) ∨
  (∃ p us, xs = [.ref p] ∧ (H p = some (.dK us) ∨ ∃ o, H p = some (.frz o (.dK us))) ∧ Q (.int us.length) H) ∨ (∃ p us o, xs = [.ref p] ∧ H p = some (.frz o (.dT us)) ∧ Q (.int us.length) H)
theorem call_lenV : CallR X (.builtin "len") rLenV := by
  intro pins s σ H xs us Q I r h
  rcases h with ⟨p, ys, rfl, e, q⟩ | ⟨p, ys, rfl, e, q⟩ | ⟨z, rfl, hz, q⟩ | ⟨p, ys, rfl, e, q⟩ | ⟨p, ys, o, rfl, e, q⟩
  · exact call_len_seq pins s σ H _ us Q I r ⟨p, ys, rfl, .inl (.of e), q⟩
  · exact call_len_seq pins s σ H _ us Q I r ⟨p, ys, rfl, .inr (.of e), q⟩
  · exact call_len_str pins s σ H _ us Q I r ⟨z, rfl, hz, q⟩
  · obtain ⟨u, eu, rx⟩ := vals1 r
    subst eu
    cases rx
    exact d_len I (e.imp id id) fun t s' I' => ⟨.int ys.length, H, I', ⟨t, rfl⟩, q⟩
  · obtain ⟨u, eu, rx⟩ := vals1 r
    subst eu
    cases rx
    obtain ⟨z, hd, xs', rel, dd⟩ := dt_rd I.hok (.inr ⟨o, e⟩)
    have hl : ys.length = xs'.length := Paired.length rel
    refine call_len_dictH hd dd ?_ ?_
    · rw [← hl]; rw [sizeLine_eq] at z; omega
    · rw [← hl]
      exact ⟨.int ((ys.length : Nat) : Int), H, I.tok _, ⟨_, rfl⟩, q⟩
end

instance callLen : CallD rLenV dLen where
  run := by
    intro O F B H σ ρ xs ds Q Q' h rx q k
    unfold dLen at q
    split at q
    · cases rx with
      | cons a rr =>
        cases rr
        cases a with
        | lst e r => exact .inl ⟨_, _, rfl, h.eb _ _ e, by rw [r.length]; exact k _ _ _ _ h .refl (.int _) q⟩
    · cases rx with
      | cons a rr =>
        cases rr
        cases a with
        | tup e r => exact .inr (.inl ⟨_, _, rfl, h.eb _ _ e, by rw [r.length]; exact k _ _ _ _ h .refl (.int _) q⟩)
    · cases rx with
      | cons a rr =>
        cases rr
        cases a
        exact .inr (.inr (.inl ⟨_, rfl, q.1, k _ _ _ _ h .refl (.int _) q.2⟩))
    · cases rx with
      | cons a rr =>
        cases rr
        cases a with
        | dk e r => exact .inr (.inr (.inr (.inl ⟨_, _, rfl, .inr ⟨_, h.eb _ _ e⟩, by rw [(rpk_keys r).1]; exact k _ _ _ _ h .refl (.int _) q⟩)))
        | dt e r => exact .inr (.inr (.inr (.inr ⟨_, _, _, rfl, h.eb _ _ e, by rw [(rpt_keys r).1]; exact k _ _ _ _ h .refl (.int _) q⟩)))
    · exact q.elim
/-- len of a name: what is its own stays so -/
def dLenV (i : Nat) : DE := fun ρ Q => match ρ[i]? with
  | some (.d x) => dLen [x] fun d => Q d ρ
  | some (.l xs) => Q (.int xs.length) ρ
  | some (.g xs) => Q (.int xs.length) ρ
  | some (.k xs) => Q (.int xs.length) ρ
  | _ => False
instance (priority := high) semLenV (i : Nat) : SemE (tCB rLenV (tCons (tVarF i) tNil)) (dLenV i) where
  run := by
    intro O F B H σ ρ Q Q' h q k
    unfold dLenV at q
    split at q
    · rename_i x e
      obtain ⟨o, e1, v, rfl, r⟩ := h.sl _ _ e
      exact ⟨v, e1, .inl (callLen.run h (.one r) q fun v' H' B' d h' g' r' q' => k v' H' B' ρ d h' g' r' q')⟩
    · rename_i xs e
      obtain ⟨o, e1, p, vs, rfl, hp, r, nb, nf, no⟩ := h.sl _ _ e
      exact ⟨_, e1, .inl (.inl ⟨p, vs, rfl, hp, by rw [r.length]; exact k _ _ _ _ _ h .refl (.int _) q⟩)⟩
    · rename_i xs e
      obtain ⟨o, e1, p, vs, rfl, hp, r, nb, nf, no⟩ := h.sl _ _ e
      exact ⟨_, e1, .inl (.inl ⟨p, vs, rfl, hp, by rw [r.length]; exact k _ _ _ _ _ h .refl (.int _) q⟩)⟩
    · rename_i xs e
      obtain ⟨o, e1, p, vs, rfl, hp, r, nb, nf, no⟩ := h.sl _ _ e
      exact ⟨_, e1, .inl (.inr (.inr (.inr (.inl ⟨p, vs, rfl, .inl hp, by rw [(rpk_keys r).1]; exact k _ _ _ _ _ h .refl (.int _) q⟩))))⟩
    · exact q.elim

def rIxD : R2 := fun x y H Q => (∃ p xs i v, x = .ref p ∧ y = .int i ∧ H p = some (.lst xs) ∧ atI xs i = some v ∧ Q v H) ∨ (∃ p xs i v, x = .ref p ∧ y = .int i ∧ H p = some (.tup xs) ∧ atI xs i = some v ∧ Q v H) ∨ rIxS x y H Q
theorem IxR.of {X : Cx} {r r' : R2} (h : IxR X r) (k : ∀ x y H Q, r' x y H Q → r x y H Q) : IxR X r' := by
  intro va sl pins s σ H x y v u Q I rx ry q
  exact h va sl pins s σ H x y v u Q I rx ry (k _ _ _ _ q)
theorem ixr {X : Cx} : IxR X rIxD := IxR.of ix_seq fun x y H Q h => by
  rcases h with ⟨p, xs, i, v, e1, e2, h, q⟩ | ⟨p, xs, i, v, e1, e2, h, q⟩ | h
  · exact .inl ⟨p, xs, i, v, e1, e2, .of h, q⟩
  · exact .inr (.inl ⟨p, xs, i, v, e1, e2, .of h, q⟩)
  · exact .inr (.inr h)
theorem RpL.atI {B : Hp} {vs : List V} {ds : List PyData} {i : Int} {d : PyData} (h : RpL B vs ds) (e : atI ds i = some d) : ∃ v, L2.atI vs i = some v ∧ Rp B v d := by
  unfold L2.atI at e ⊢
  rw [h.length]
  cases hj : ixN ds.length i with
  | none => rw [hj] at e; cases e
  | some j =>
    rw [hj] at e
    exact h.get e
def dIx : D2 := fun x y Q => match x, y with
  | .list ds, .int i => ∃ d, atI ds i = some d ∧ Q d
  | .tuple ds, .int i => ∃ d, atI ds i = some d ∧ Q d
  | .str z, .int i => z.length ≤ sizeLine ∧ ∃ c, atI z.cps.toList i = some c ∧ Q (.str ⟨#[c]⟩)
  | _, _ => False
instance op2Ix : Op2 rIxD dIx where
  run := by
    intro O F B H σ ρ x y dx dy Q Q' h rx ry q k
    unfold dIx at q
    split at q
    · obtain ⟨d, e, q⟩ := q
      cases ry
      cases rx with
      | lst e1 r =>
        obtain ⟨v, e2, r2⟩ := r.atI e
        exact .inl ⟨_, _, _, v, rfl, rfl, h.eb _ _ e1, e2, k _ _ _ _ h .refl r2 q⟩
    · obtain ⟨d, e, q⟩ := q
      cases ry
      cases rx with
      | tup e1 r =>
        obtain ⟨v, e2, r2⟩ := r.atI e
        exact .inr (.inl ⟨_, _, _, v, rfl, rfl, h.eb _ _ e1, e2, k _ _ _ _ h .refl r2 q⟩)
    · obtain ⟨hz, c, e, q⟩ := q
      cases ry; cases rx
      exact .inr (.inr ⟨_, _, c, rfl, rfl, hz, e, k _ _ _ _ h .refl (.str _) q⟩)
    · exact q.elim
/-- an item of a name: what is its own stays so -/
def hasV (s : Option Sl) : Bool := match s with
  | some (.d _) => true
  | some (.l _) => true
  | some (.g _) => true
  | _ => false
theorem hasV_at {O : Addr → Prop} {F B H : Hp} {σ : L2.St} {ρ : DEnv} (h : R O F B H σ ρ) {i : Nat} (e : hasV ρ[i]? = true) : ∃ v, σ[i]? = some (some v) := by
  unfold hasV at e
  split at e
  · rename_i x e1
    obtain ⟨o, e2, v, rfl, _⟩ := h.sl _ _ e1
    exact ⟨_, e2⟩
  · rename_i x e1
    obtain ⟨o, e2, p, vs, rfl, _⟩ := h.sl _ _ e1
    exact ⟨_, e2⟩
  · rename_i x e1
    obtain ⟨o, e2, p, vs, rfl, _⟩ := h.sl _ _ e1
    exact ⟨_, e2⟩
  · cases e
def dIxV (i : Nat) (b : DE) : DE := fun ρ Q => hasV ρ[i]? = true ∧ b ρ fun y ρ1 => match ρ1[i]? with
  | some (.d x) => dIx x y fun z => Q z ρ1
  | some (.l xs) => dIx (.list xs) y fun z => Q z ρ1
  | some (.g xs) => dIx (.list xs) y fun z => Q z ρ1
  | _ => False
theorem ix_own {B H : Hp} {p : Addr} {vs : List V} {xs : List PyData} {y : V} {dy : PyData} {Q : PyData → Prop} {Q' : VK} (hp : H p = some (.lst vs)) (r : RpL B vs xs) (ry : Rp B y dy) (q : dIx (.list xs) dy Q) (k : ∀ v d, Rp B v d → Q d → Q' v H) : rIxD (.ref p) y H Q' := by
  cases ry with
  | int i =>
    obtain ⟨d, e, q⟩ := q
    obtain ⟨v, e2, r2⟩ := r.atI e
    exact .inl ⟨_, _, _, v, rfl, rfl, hp, e2, k v d r2 q⟩
  | _ => exact q.elim
instance (priority := high) semIxV (i : Nat) (Tb : TE) (b : DE) [i2 : SemE Tb b] : SemE (tOp rIxD (tVarF i) Tb) (dIxV i b) where
  run := by
    intro O F B H σ ρ Q Q' h q k
    obtain ⟨e0, q⟩ := q
    obtain ⟨v, ev⟩ := hasV_at h e0
    refine ⟨v, ev, .inl ?_⟩
    refine i2.run h q fun y H1 B1 ρ1 dy h1 g1 ry q1 => ?_
    split at q1
    · rename_i x e
      obtain ⟨o, e1, v', rfl, r⟩ := h1.sl _ _ e
      rw [ev] at e1
      cases e1
      exact op2Ix.run h1 r ry q1 fun v' H' B' d h' g' r' q' => k v' H' B' ρ1 d h' (g1.trans g') r' q'
    · rename_i x e
      obtain ⟨o, e1, p, vs, rfl, hp, r, _⟩ := h1.sl _ _ e
      rw [ev] at e1
      cases e1
      exact ix_own hp r ry q1 fun v d rv q => k v H1 B1 ρ1 d h1 g1 rv q
    · rename_i x e
      obtain ⟨o, e1, p, vs, rfl, hp, r, _⟩ := h1.sl _ _ e
      rw [ev] at e1
      cases e1
      exact ix_own hp r ry q1 fun v d rv q => k v H1 B1 ρ1 d h1 g1 rv q
    · exact q1.elim

abbrev DO := DEnv → (Option Int → DEnv → Prop) → Prop
class SemO (T : TO) (t : outParam DO) : Prop where
  run : ∀ {O : Addr → Prop} {F B H : Hp} {σ : L2.St} {ρ : DEnv} {Q : Option Int → DEnv → Prop} {Q' : Option Int → Hp → Prop}, R O F B H σ ρ → t ρ Q → (∀ b H' B' ρ', R O F B' H' σ ρ' → Gr O B B' → Q b ρ' → Q' b H') → T σ H Q'
def dNoPart : DO := fun ρ Q => Q none ρ
def dPart (a : DE) : DO := fun ρ Q => a ρ fun x ρ1 => match x with
  | .int i => Q (some i) ρ1
  | _ => False
instance semNoPart : SemO tNoPart dNoPart where
  run := fun h q k => k _ _ _ _ h .refl q
instance semPart (Ta : TE) (a : DE) [i1 : SemE Ta a] : SemO (tPart Ta) (dPart a) where
  run := fun h q k => i1.run h q fun x H1 B1 ρ1 d h1 g1 rx q1 => by
    cases rx with
    | int i => exact ⟨i, rfl, k _ _ _ _ h1 g1 q1⟩
    | _ => exact q1.elim
def rSlD : V → Option Int → Option Int → Hp → VK → Prop := fun x lo hi H Q => (∃ a xs, x = .ref a ∧ H a = some (.lst xs) ∧ ∀ p, H p = none → Q (.ref p) (upd H p (.lst (cutV xs lo hi)))) ∨
  (∃ a xs, x = .ref a ∧ H a = some (.tup xs) ∧ (HT.sIx xs.length 0 lo = 0 ∧ HT.sIx xs.length xs.length hi = xs.length → Q (.ref a) H) ∧ (¬ (HT.sIx xs.length 0 lo = 0 ∧ HT.sIx xs.length xs.length hi = xs.length) → ∀ p, H p = none → Q (.ref p) (upd H p (.tup (cutV xs lo hi))))) ∨ rSlS x lo hi H Q
theorem slr {X : Cx} : SlR X rSlD := by
  intro pins s σ H x v vl vu lo hi sl Q I rx hs pl pu h
  rcases h with ⟨a, xs, e, h, q⟩ | ⟨a, xs, e, h, q⟩ | h
  · exact (sl_list.or (sl_tupA.or sl_str)) pins s σ H x v vl vu lo hi sl Q I rx hs pl pu (.inl ⟨a, xs, e, .of h, q⟩)
  · exact (sl_list.or (sl_tupA.or sl_str)) pins s σ H x v vl vu lo hi sl Q I rx hs pl pu (.inr (.inl ⟨a, xs, e, .of h, q⟩))
  · exact (sl_list.or (sl_tupA.or sl_str)) pins s σ H x v vl vu lo hi sl Q I rx hs pl pu (.inr (.inr h))
def cutD (xs : List PyData) (lo hi : Option Int) : List PyData := (xs.drop (HT.sIx xs.length 0 lo)).take (HT.sIx xs.length xs.length hi - HT.sIx xs.length 0 lo)
theorem RpL.cut {B : Hp} {vs : List V} {ds : List PyData} (h : RpL B vs ds) (lo hi : Option Int) : RpL B (cutV vs lo hi) (cutD ds lo hi) := by
  unfold cutV cutD
  rw [h.length]
  exact (h.drop _).take _
def dSl (a : DE) (lo hi : DO) : DE := fun ρ Q => a ρ fun x ρ1 => lo ρ1 fun l ρ2 => hi ρ2 fun u ρ3 => match x with
  | .list ds => Q (.list (cutD ds l u)) ρ3
  | .tuple ds => Q (.tuple (cutD ds l u)) ρ3
  | .str z => z.length ≤ sizeLine ∧ Q (.str (cutS z l u)) ρ3
  | _ => False
instance semSl (Ta : TE) (Tl Th : TO) (a : DE) (lo hi : DO) [i1 : SemE Ta a] [i2 : SemO Tl lo] [i3 : SemO Th hi] : SemE (tSl rSlD Ta Tl Th) (dSl a lo hi) where
  run := by
    intro O F B H σ ρ Q Q' h q k
    refine i1.run h q fun x H1 B1 ρ1 dx h1 g1 rx q1 => i2.run h1 q1 fun l H2 B2 ρ2 h2 g2 q2 => i3.run h2 q2 fun u H3 B3 ρ3 h3 g3 q3 => ?_
    have rx' := rx.up (g2.trans g3).ex
    have g := (g1.trans g2).trans g3
    split at q3
    · cases rx' with
      | lst e r => exact .inl ⟨_, _, rfl, h3.eb _ _ e, fun p hp => k _ _ _ _ _ (h3.new hp) (g.trans (Gr.new h3 hp)) (.lst upd_same ((r.cut l u).up (Ex.new (h3.eb.free hp)))) q3⟩
    · cases rx' with
      | tup e r =>
        refine .inr (.inl ⟨_, _, rfl, h3.eb _ _ e, fun z => ?_, fun _ p hp => k _ _ _ _ _ (h3.new hp) (g.trans (Gr.new h3 hp)) (.tup upd_same ((r.cut l u).up (Ex.new (h3.eb.free hp)))) q3⟩)
        rename_i ds _ vs
        have e2 : cutD ds l u = ds := by
          unfold cutD
          rw [← r.length, z.1, z.2, List.drop_zero, Nat.sub_zero, r.length]
          exact List.take_of_length_le (Nat.le_refl _)
        rw [e2] at q3
        exact k _ _ _ _ _ h3 g (.tup e r) q3
    · cases rx'
      exact .inr (.inr ⟨_, rfl, q3.1, k _ _ _ _ _ h3 g (.str _) q3.2⟩)
    · exact q3.elim
/-- xs[::-1] -/
def tRevD (te : TE) : TE := fun σ H Q => te σ H fun x H1 => ∃ a xs, x = .ref a ∧ H1 a = some (.lst xs) ∧ ∀ p, H1 p = none → Q (.ref p) (upd H1 p (.lst xs.reverse))
theorem pe_revD {X : Cx} {e : Expr} {te : TE} {k : Nat} {p1 p2 p3 pos : Pos} (he : PE X e te) : PE X (.Subscript e (.Slice none none (some (.UnaryOp .USub (.Constant (.int 1) k p1) p2)) p3) pos) (tRevD te) :=
  PE.of (pe_revL (pe_M he)) fun σ H Q h => ⟨_, h, fun v H1 ⟨a, xs, e, h, q⟩ => ⟨a, xs, e, .of h, q⟩⟩
def dRev (a : DE) : DA := fun ρ Q => a ρ fun x ρ1 => match x with
  | .list ds => Q ds.reverse ρ1
  | _ => False
instance semRev (Ta : TE) (a : DE) [i1 : SemE Ta a] : SemN (tRevD Ta) (dRev a) where
  run := fun h q k => i1.run h q fun x H1 B1 ρ1 d h1 g1 rx q1 => by
    cases rx with
    | lst e r => exact ⟨_, _, rfl, h1.eb _ _ e, fun p hp => k p _ _ _ _ _ (h1.newO hp) g1 upd_same r.reverse (h1.eb.free hp) (h1.ef.free hp) (fun o => h1.od p o hp) (h1.free_new hp) q1⟩
    | _ => exact q1.elim
end DL

namespace DL
open PySem PySem.Spec PyProof.Rows L2

def CPowX (i j : Int) : Prop := 0 ≤ j ∧ (Builtin.Int.intBits i : Int) * j ≤ 2 ^ 27
def rPowX : R2 := rI CPowX fun i j => .int (i ^ j.toNat)
theorem opr_powX {X : Cx} : OpR X (binaryOp .Pow) rPowX := opI fun _ _ _ _ _ _ _ hc q => PyProof.Rows.pow_int hc.1 hc.2 q
def dPowX : D2 := dI CPowX (vI fun i j => i ^ j.toNat)
instance op2PowX : Op2 rPowX dPowX where
  run := fun h rx ry q k => dI_run (fun _ _ _ => .int _) h rx ry q k

inductive Ty where
  | int | bool | str | list | tuple | dict
def Ty.name : Ty → String
  | .int => "int"
  | .bool => "bool"
  | .str => "str"
  | .list => "list"
  | .tuple => "tuple"
  | .dict => "dict"
def tyName : PyData → String
  | .none => "NoneType"
  | .bool _ => "bool"
  | .int _ => "int"
  | .str _ => "str"
  | .list _ => "list"
  | .tuple _ => "tuple"
  | .dict _ => "dict"
def isTy : Ty → PyData → Bool
  | .int, .int _ => true
  | .int, .bool _ => true
  | .bool, .bool _ => true
  | .str, .str _ => true
  | .list, .list _ => true
  | .tuple, .tuple _ => true
  | .dict, .dict _ => true
  | _, _ => false
theorem kit_is (t : Ty) (d : PyData) : kitB (tyName d) t.name = some (isTy t d) := by
  cases d with
  | none => cases t <;> (show kitB "NoneType" _ = some false; decide +kernel)
  | bool b =>
    cases t with
    | int => show kitB "bool" "int" = some true; decide +kernel
    | bool => show kitB "bool" "bool" = some true; decide +kernel
    | str => show kitB "bool" "str" = some false; decide +kernel
    | list => show kitB "bool" "list" = some false; decide +kernel
    | tuple => show kitB "bool" "tuple" = some false; decide +kernel
    | dict => show kitB "bool" "dict" = some false; decide +kernel
  | int i =>
    cases t with
    | int => show kitB "int" "int" = some true; decide +kernel
    | bool => show kitB "int" "bool" = some false; decide +kernel
    | str => show kitB "int" "str" = some false; decide +kernel
    | list => show kitB "int" "list" = some false; decide +kernel
    | tuple => show kitB "int" "tuple" = some false; decide +kernel
    | dict => show kitB "int" "dict" = some false; decide +kernel
  | str i =>
    cases t with
    | int => show kitB "str" "int" = some false; decide +kernel
    | bool => show kitB "str" "bool" = some false; decide +kernel
    | str => show kitB "str" "str" = some true; decide +kernel
    | list => show kitB "str" "list" = some false; decide +kernel
    | tuple => show kitB "str" "tuple" = some false; decide +kernel
    | dict => show kitB "str" "dict" = some false; decide +kernel
  | list i =>
    cases t with
    | int => show kitB "list" "int" = some false; decide +kernel
    | bool => show kitB "list" "bool" = some false; decide +kernel
    | str => show kitB "list" "str" = some false; decide +kernel
    | list => show kitB "list" "list" = some true; decide +kernel
    | tuple => show kitB "list" "tuple" = some false; decide +kernel
    | dict => show kitB "list" "dict" = some false; decide +kernel
  | tuple i =>
    cases t with
    | int => show kitB "tuple" "int" = some false; decide +kernel
    | bool => show kitB "tuple" "bool" = some false; decide +kernel
    | str => show kitB "tuple" "str" = some false; decide +kernel
    | list => show kitB "tuple" "list" = some false; decide +kernel
    | tuple => show kitB "tuple" "tuple" = some true; decide +kernel
    | dict => show kitB "tuple" "dict" = some false; decide +kernel
  | dict i =>
    cases t with
    | int => show kitB "dict" "int" = some false; decide +kernel
    | bool => show kitB "dict" "bool" = some false; decide +kernel
    | str => show kitB "dict" "str" = some false; decide +kernel
    | list => show kitB "dict" "list" = some false; decide +kernel
    | tuple => show kitB "dict" "tuple" = some false; decide +kernel
    | dict => show kitB "dict" "dict" = some true; decide +kernel
def rIsiD (ty : Ty) : List V → Hp → VK → Prop := fun xs H Q => ∃ x d, xs = [x, .ty ty.name] ∧ Rp H x d ∧ Q (.bl (isTy ty d)) H
section
variable {X : Cx}
theorem call_isiD (ty : Ty) : CallR X (.builtin "isinstance") (rIsiD ty) := by
  intro pins s σ H xs us Q I r h
  obtain ⟨x, d, rfl, rp, q⟩ := h
  have go : ∀ t, TyX X.K H x (.type t) → t = tyName d → wpAny (model X.prog X.w) X.A (call (.builtin "isinstance") us) (EP X pins σ Q) X.xe s := fun t ht e =>
    call_isi pins s σ H _ us Q I r ⟨x, _, _, _, _, rfl, .ty _, ht, kit_ty (by rw [e]; exact kit_is ty d), q⟩
  cases rp with
  | non => exact go _ (.base .non) rfl
  | bl b => exact go _ (.base (.bl b)) rfl
  | int i => exact go _ (.base (.int i)) rfl
  | str i => exact go _ (.base (.str i)) rfl
  | lst e _ => exact go _ (.base (.lst e)) rfl
  | tup e _ => exact go _ (.base (.tup e)) rfl
  | dk e _ => exact go _ (.fDict e) rfl
  | @dt a o kvs ds e _ =>
    obtain ⟨u1, u2, rfl, r1, r2⟩ := vals2 r
    cases (show u1 = Value.ref a from r1)
    cases (show u2 = Value.type ty.name from r2)
    obtain ⟨_, _, _, xs, _, o', es, ep, h1, h2, _⟩ := (show ObjOk X.prog X.w H s.heap a (.frz o (.dT kvs)) from I.hok a _ e)
    exact PySem.W.kia_one (b := isTy ty (.dict ds)) PySem.W.kitx_dict I.kIn ⟨o', h1, h2.1⟩ (kit_ty (kit_is ty (.dict ds))) (fun z => nomatch z) fun tk => ⟨.bl _, H, I.tok tk, rfl, q⟩
def tIsiD (ty : Ty) (te : TE) : TE := fun σ H Q => te σ H fun x H1 => ∃ d, Rp H1 x d ∧ Q (.bl (isTy ty d)) H1
theorem pe_isi (ty : Ty) {x2 : Str} {e : Expr} {te : TE} {p p2 pos : Pos} (hg : Gl X "isinstance") (hm : X.mg "isinstance" = none) (hg2 : Gl X x2) (hm2 : X.mg x2 = none) (hv2 : bootBuiltins x2 = some (.type ty.name)) (he : PE X e te)
    (hb : bootBuiltins "isinstance" = some (.builtin "isinstance") := by decide +kernel) (hn : x2 ≠ "__name__" := by decide) (hdb : (x2 == ("__debug__" : Str)) = false := by decide)
    (h1 : starEach (e :: [.Name x2 p2]) X.env = (false, eval e X.env) :: starEach [.Name x2 p2] X.env := by rfl) (h2 : (backTo pos (starEach [.Name x2 p2] X.env)).any (·.1) = false := by rfl) : PE X (.Call (.Name "isinstance" p) [e, .Name x2 p2] [] pos) (tIsiD ty te) :=
  PE.of (pe_callB (call_isiD ty) hg hm hb (pa_cons (pe_M he) (pa_cons (pe_bltn (v := .ty ty.name) hg2 hm2 hv2 rfl hn hdb) pa_nil) h1) (by decide) (by decide) h1 h2) fun σ H Q h => ⟨_, h, fun v H1 ⟨d, r, q⟩ => ⟨v, d, rfl, r, q⟩⟩
end
def dIsi (ty : Ty) (a : DE) : DE := fun ρ Q => a ρ fun x ρ1 => Q (.bool (isTy ty x)) ρ1
instance semIsi (ty : Ty) (Ta : TE) (a : DE) [i1 : SemE Ta a] : SemE (tIsiD ty Ta) (dIsi ty a) where
  run := fun h q k => i1.run h q fun x H1 B1 ρ1 d h1 g1 rx q1 => ⟨d, rx.up h1.eb, k _ _ _ _ _ h1 g1 (.bl _) q1⟩

section
variable {X : Cx}
def rInt1 : List V → Hp → VK → Prop := fun xs H Q => (∃ i, xs = [.int i] ∧ Q (.int i) H) ∨ ∃ k, xs = [.bl k] ∧ Q (.int (if k then 1 else 0)) H
theorem callr_int : CallR X (.type "int") rInt1 := call_int1
def dInt1 : DL1 := fun xs Q => match xs with
  | [.int i] => Q (.int i)
  | [.bool b] => Q (.int (if b then 1 else 0))
  | _ => False
instance callInt1 : CallD rInt1 dInt1 where
  run := by
    intro O F B H σ ρ xs ds Q Q' h rx q k
    unfold dInt1 at q
    split at q
    · rw [rpl_int1 rx]
      exact .inl ⟨_, rfl, k _ _ _ _ h .refl (.int _) q⟩
    · cases rx with
      | cons a r =>
        cases a; cases r
        exact .inr ⟨_, rfl, k _ _ _ _ h .refl (.int _) q⟩
    · exact q.elim
def rMax2 : List V → Hp → VK → Prop := fun xs H Q => ∃ i j, xs = [.int i, .int j] ∧ Q (.int (if j > i then j else i)) H
def rMin2 : List V → Hp → VK → Prop := fun xs H Q => ∃ i j, xs = [.int i, .int j] ∧ Q (.int (if j < i then j else i)) H
theorem callr_max2 (hc : X.calm = true) : CallR X (.builtin "max") rMax2 := call_max2 hc
theorem callr_min2 (hc : X.calm = true) : CallR X (.builtin "min") rMin2 := call_min2 hc
def dMax2 : DL1 := fun xs Q => match xs with
  | [.int i, .int j] => Q (.int (if j > i then j else i))
  | _ => False
def dMin2 : DL1 := fun xs Q => match xs with
  | [.int i, .int j] => Q (.int (if j < i then j else i))
  | _ => False
instance callMax2 : CallD rMax2 dMax2 where
  run := by
    intro O F B H σ ρ xs ds Q Q' h rx q k
    unfold dMax2 at q
    split at q
    · exact ⟨_, _, rpl_int2 rx, k _ _ _ _ h .refl (.int _) q⟩
    · exact q.elim
instance callMin2 : CallD rMin2 dMin2 where
  run := by
    intro O F B H σ ρ xs ds Q Q' h rx q k
    unfold dMin2 at q
    split at q
    · exact ⟨_, _, rpl_int2 rx, k _ _ _ _ h .refl (.int _) q⟩
    · exact q.elim
theorem rpl_ints {B : Hp} : ∀ {ns : List Int} {vs : List V}, RpL B vs (ns.map .int) → vs = ns.map V.int
  | [], vs, h => by cases h; rfl
  | n :: ns, vs, h => by
    cases h with
    | cons a r =>
      cases a
      rw [rpl_ints r]
      rfl
theorem ints_rpl {B : Hp} : ∀ ns : List Int, RpL B (ns.map V.int) (ns.map .int)
  | [] => .nil
  | n :: ns => .cons (.int n) (ints_rpl ns)
theorem rpl_strs {B : Hp} : ∀ {ns : List Str} {vs : List V}, RpL B vs (ns.map .str) → vs = ns.map V.str
  | [], vs, h => by cases h; rfl
  | n :: ns, vs, h => by
    cases h with
    | cons a r =>
      cases a
      rw [rpl_strs r]
      rfl
theorem strs_rpl {B : Hp} : ∀ ns : List Str, RpL B (ns.map V.str) (ns.map .str)
  | [] => .nil
  | n :: ns => .cons (.str n) (strs_rpl ns)
def rSumD : List V → Hp → VK → Prop := fun vs H Q => ∃ (a : Addr) (ns : List Int), vs = [V.ref a] ∧ H a = some (.lst (ns.map V.int)) ∧ Q (.int ns.sum) H
theorem callr_sum (hc : X.calm = true) : CallR X (.builtin "sum") rSumD := CallR.of (cr_sum hc) fun xs H Q ⟨a, ns, e, h, q⟩ => ⟨a, ns, e, .of h, q⟩
def dSum : DL1 := fun xs Q => ∃ ns : List Int, xs = [.list (ns.map .int)] ∧ Q (.int ns.sum)
instance callSum : CallD rSumD dSum where
  run := by
    intro O F B H σ ρ xs ds Q Q' h rx q k
    obtain ⟨ns, rfl, q⟩ := q
    cases rx with
    | cons a r =>
      cases r
      cases a with
      | lst e r =>
        have := rpl_ints r
        subst this
        exact ⟨_, ns, rfl, h.eb _ _ e, k _ _ _ _ h .refl (.int _) q⟩
/-- sorted: ints, texts -/
def rSortD : List V → Hp → VK → Prop := fun vs H Q => (∃ (a : Addr) (ns : List Int), vs = [V.ref a] ∧ H a = some (.lst (ns.map V.int)) ∧ ns.length < 64 ∧ ∀ (ns' : List Int) (p : Addr), ns'.Perm ns → ns'.Pairwise (· ≤ ·) → H p = none → Q (.ref p) (upd H p (.lst (ns'.map V.int)))) ∨
  (∃ (a : Addr) (xs : List Str), vs = [V.ref a] ∧ H a = some (.lst (xs.map V.str)) ∧ xs.length < 64 ∧ ∀ (ys : List Str) (p : Addr), ys.Perm xs → sortedS ys = true → H p = none → Q (.ref p) (upd H p (.lst (ys.map V.str))))
theorem callr_sorted : CallR X (.builtin "sorted") rSortD := CallR.of (cr_sorted.or cr_sortedS) fun xs H Q h => by
  rcases h with ⟨a, ns, e, h, q⟩ | ⟨a, ns, e, h, q⟩
  · exact .inl ⟨a, ns, e, .of h, q⟩
  · exact .inr ⟨a, ns, e, .of h, q⟩
def dSorted : DLN := fun xs Q => (∃ ns : List Int, xs = [.list (ns.map .int)] ∧ ns.length < 64 ∧ ∀ ns' : List Int, ns'.Perm ns → ns'.Pairwise (· ≤ ·) → Q (ns'.map .int)) ∨
  (∃ ns : List Str, xs = [.list (ns.map .str)] ∧ ns.length < 64 ∧ ∀ ns' : List Str, ns'.Perm ns → sortedS ns' = true → Q (ns'.map .str))
instance callSorted : CallN rSortD dSorted where
  run := by
    intro O F B H σ ρ xs ds Q Q' h rx q k
    rcases q with ⟨ns, rfl, hl, q⟩ | ⟨ns, rfl, hl, q⟩
    · cases rx with
      | cons a r =>
        cases r
        cases a with
        | lst e r =>
          have := rpl_ints r
          subst this
          exact .inl ⟨_, ns, rfl, h.eb _ _ e, hl, fun ns' p p1 p2 hp => k p _ _ hp (ints_rpl ns') (q ns' p1 p2)⟩
    · cases rx with
      | cons a r =>
        cases r
        cases a with
        | lst e r =>
          have := rpl_strs r
          subst this
          exact .inr ⟨_, ns, rfl, h.eb _ _ e, hl, fun ns' p p1 p2 hp => k p _ _ hp (strs_rpl ns') (q ns' p1 p2)⟩
/-- list(..), tuple(..) -/
def rListD : List V → Hp → VK → Prop := fun xs H Q => (∃ p ys, xs = [.ref p] ∧ (H p = some (.lst ys) ∨ H p = some (.tup ys)) ∧ ∀ l, H l = none → Q (.ref l) (upd H l (.lst ys))) ∨
  (∃ z : Str, xs = [.str z] ∧ z.length ≤ sizeLine ∧ ∀ l, H l = none → Q (.ref l) (upd H l (.lst (z.cps.toList.map fun c => .str ⟨#[c]⟩))))
theorem callr_list (hc : X.calm = true) : CallR X (.type "list") rListD := by
  intro pins s σ H xs us Q I r h
  rcases h with ⟨p, ys, rfl, h, q⟩ | ⟨z, rfl, hz, q⟩
  · exact call_list_of pins s σ H _ us Q I r ⟨p, ys, rfl, h.imp SqL.of SqT.of, q⟩
  · obtain ⟨u, rfl, rx⟩ := vals1 r
    obtain ⟨t, rfl⟩ := rx
    refine PySem.call_list_str (I.ok.hd hc) z t (hn := hz) fun h' tk acc c hk hS hacc => ?_
    have hl : acc.toList.length = z.cps.size := by simpa using hacc.1
    refine ⟨.ref s.heap.objs.size, upd H s.heap.objs.size (.lst (z.cps.toList.map fun c => .str ⟨#[c]⟩)), I.laid (t' := tk) hk (Nat.le_refl _) ⟨by rw [List.length_map, Array.length_toList]; exact hz, acc.toList, c, ?_, ?_⟩, rfl, q _ I.fresh⟩
    · refine vals_of_at (by rw [List.length_map, Array.length_toList, hl]) fun j x u e1 e2 => ?_
      obtain ⟨c', u', hc', rfl⟩ := hacc.2 j u (by simpa using e2)
      rw [List.getElem?_map, Array.getElem?_toList, hc'] at e1
      cases e1
      exact ⟨u', rfl⟩
    · rw [hS]
def dList : DLN := fun xs Q => match xs with
  | [.list ds] => Q ds
  | [.tuple ds] => Q ds
  | [.str z] => z.length ≤ sizeLine ∧ Q (signs z)
  | _ => False
theorem signs_rpl {B : Hp} (z : Str) : RpL B (z.cps.toList.map fun c => .str ⟨#[c]⟩) (signs z) := by
  unfold signs
  generalize z.cps.toList = l
  induction l with
  | nil => exact .nil
  | cons c l ih => exact .cons (.str _) ih
instance callList : CallN rListD dList where
  run := by
    intro O F B H σ ρ xs ds Q Q' h rx q k
    unfold dList at q
    split at q
    · cases rx with
      | cons a r =>
        cases r
        cases a with
        | lst e r => exact .inl ⟨_, _, rfl, .inl (h.eb _ _ e), fun p hp => k p _ _ hp r q⟩
    · cases rx with
      | cons a r =>
        cases r
        cases a with
        | tup e r => exact .inl ⟨_, _, rfl, .inr (h.eb _ _ e), fun p hp => k p _ _ hp r q⟩
    · cases rx with
      | cons a r =>
        cases r
        cases a
        exact .inr ⟨_, rfl, q.1, fun p hp => k p _ _ hp (signs_rpl _) q.2⟩
    · exact q.elim
def rTupD : List V → Hp → VK → Prop := fun xs H Q => ∃ p ys, xs = [.ref p] ∧ ((H p = some (.lst ys) ∧ ∀ l, H l = none → Q (.ref l) (upd H l (.tup ys))) ∨ (H p = some (.tup ys) ∧ Q (.ref p) H))
theorem callr_tuple : CallR X (.type "tuple") rTupD := CallR.of call_tuple_of fun xs H Q ⟨p, ys, e, h⟩ => ⟨p, ys, e, h.imp (fun ⟨a, b⟩ => ⟨.of a, b⟩) fun ⟨a, b⟩ => ⟨.of a, b⟩⟩
def dTupC : DL1 := fun xs Q => match xs with
  | [.list ds] => Q (.tuple ds)
  | [.tuple ds] => Q (.tuple ds)
  | _ => False
instance callTup : CallD rTupD dTupC where
  run := by
    intro O F B H σ ρ xs ds Q Q' h rx q k
    unfold dTupC at q
    split at q
    · cases rx with
      | cons a r =>
        cases r
        cases a with
        | lst e r => exact ⟨_, _, rfl, .inl ⟨h.eb _ _ e, fun p hp => k _ _ _ _ (h.new hp) (Gr.new h hp) (.tup upd_same (r.up (Ex.new (h.eb.free hp)))) q⟩⟩
    · cases rx with
      | cons a r =>
        cases r
        cases a with
        | tup e r => exact ⟨_, _, rfl, .inr ⟨h.eb _ _ e, k _ _ _ _ h .refl (.tup e r) q⟩⟩
    · exact q.elim
def rStrI : List V → Hp → VK → Prop := fun xs H Q => ∃ i, xs = [.int i] ∧ i.natAbs.log2 < 1920 ∧ Q (.str (toString i)) H
theorem callr_str : CallR X (.type "str") rStrI := call_str_int
def dStrI : DL1 := fun xs Q => match xs with
  | [.int i] => i.natAbs.log2 < 1920 ∧ Q (.str (toString i))
  | _ => False
instance callStrI : CallD rStrI dStrI where
  run := by
    intro O F B H σ ρ xs ds Q Q' h rx q k
    unfold dStrI at q
    split at q
    · rw [rpl_int1 rx]
      exact ⟨_, rfl, q.1, k _ _ _ _ h .refl (.str _) q.2⟩
    · exact q.elim
section
open PySem.Builtin PySem.Builtin.Str PySem.Builtin.Int
variable {prog : Program} {w : World} {A : Around} {E : Value → Shared → Prop} {s : Shared} {a : Int} {t : Tok}
theorem int_repr_big {Q : Value → Shared → Prop} (hn : s.heap.NoDigits) (hlt : a.natAbs < 10 ^ 4300) (h1 : Q (.str (toString a) s.toks) { s with toks := s.toks + 1 }) : wpAny (model prog w) A (call (.builtin "int.__repr__") [.int a t]) Q E s := by
  refine wpAny_call_entry F.slot_int_repr (typeIs_int s a t) F.entry_int_repr ?_ (F.args_int_repr_1 _)
  unfold Builtin.«int.__repr__»
  show wpAny _ _ (do let r ← Builtin.overDigitLimit? a; _) _ _ s
  exact wpAny_bind (overDigitLimit_any hn (fun hlt => wpAny_bind (wpAny_mkStr (wpAny_pure ⟨_, rfl, h1⟩) (int_text_fits10 hlt))) (fun hge => absurd hlt (Nat.not_lt.mpr hge)))
theorem strOf_big {Q : Value → Shared → Prop} (hn : s.heap.NoDigits) (hlt : a.natAbs < 10 ^ 4300) (h1 : Q (.str (toString a) s.toks) { s with toks := s.toks + 1 }) : wpAny (model prog w) A (PySem.Builtin.Str.strOf (.int a t)) Q E s := by
  unfold PySem.Builtin.Str.strOf
  rw [show isExactStr (.int a t) = false from rfl]
  try (have hv : [Value.int a t].any Value.onHeap = false := rfl; simp only [cRoomFor, hv, Bool.false_eq_true, if_false, pure_bind])
  refine wpAny_bind (m := callSpecial? (.int a t) (Str.ofString "__str__")) (wpAny_callSpecial?_slot (name := Str.ofString "__str__") (typeIs_int s a t) F.slot_int_str ?_)
  refine wpAny_call_entry F.slot_int_str (typeIs_int s a t) entry_object_str ?_ (args_object_str _)
  unfold Builtin.«object.__str__»
  refine wpAny_bind (m := slotArgs "__str__" 0 _) (wpAny_pure ?_)
  try (have hv : [Value.int a t].any Value.onHeap = false := rfl; simp only [cRoomFor, hv, Bool.false_eq_true, if_false, pure_bind])
  refine wpAny_bind (m := callSpecialIfBound? (.int a t) (Str.ofString "__repr__")) (wpAny_callSpecialIfBound?_slot (name := Str.ofString "__repr__") (typeIs_int s a t) F.slot_int_repr (int_repr_big hn hlt ?_))
  exact wpAny_pure ⟨_, rfl, wpAny_pure h1⟩
theorem str_big {Q : Value → Shared → Prop} (hn : s.heap.NoDigits) (hlt : a.natAbs < 10 ^ 4300) (h1 : Q (.str (toString a) s.toks) { s with toks := s.toks + 1 }) : wpAny (model prog w) A (call (.type "str") [.int a t]) Q E s :=
  callType_new F.called_str (by decide) (F.typeCall_str_1 _) (F.newCall_str_1 _) (fun obj => F.args_object_init_2 obj _) F.entry_str_new
    (meets_str_new (S := fun A R s => s.heap.NoDigits ∧ a.natAbs < 10 ^ 4300 ∧ R (.ok (.ret (.str (toString a) s.toks))) { s with toks := s.toks + 1 }) fun _ _ _ _ _ hq => strOf_big hq.1 hq.2.1 hq.2.2)
    ⟨hn, hlt, typeIs_str _ _ _, h1⟩
end
def rStrB : List V → Hp → VK → Prop := fun xs H Q => ∃ i, xs = [.int i] ∧ i.natAbs < 10 ^ 4300 ∧ Q (.str (toString i)) H
theorem callr_strB {X : Cx} (nd : X.base.NoDigits) : CallR X (.type "str") rStrB := by
  intro pins s σ H xs us Q I r h
  obtain ⟨i, rfl, hz, q⟩ := h
  obtain ⟨u, rfl, t, rfl⟩ := vals1 r
  exact str_big (nd.keeps I.bk) hz ⟨.str _, H, I.tok _, ⟨_, rfl⟩, q⟩
def dStrB : DL1 := fun xs Q => match xs with
  | [.int i] => i.natAbs < 10 ^ 4300 ∧ Q (.str (toString i))
  | _ => False
instance callStrB : CallD rStrB dStrB where
  run := by
    intro O F B H σ ρ xs ds Q Q' h rx q k
    unfold dStrB at q
    split at q
    · rw [rpl_int1 rx]
      exact ⟨_, rfl, q.1, k _ _ _ _ h .refl (.str _) q.2⟩
    · exact q.elim
theorem big1920 {i : Int} (h : i.natAbs.log2 < 1920) : i.natAbs < 10 ^ 4300 := by
  have h1 : i.natAbs < 2 ^ 1920 := by
    by_cases z : i.natAbs = 0
    · rw [z]; exact Nat.two_pow_pos _
    · exact (Nat.log2_lt z).mp h
  exact Nat.lt_of_lt_of_le h1 (by decide +kernel)
def rAbsD : List V → Hp → VK → Prop := fun xs H Q => ∃ i, xs = [.int i] ∧ Q (.int (if i < 0 then -i else i)) H
theorem callr_abs {X : Cx} : CallR X (.builtin "abs") rAbsD := call_abs
def dAbs : DL1 := fun xs Q => match xs with
  | [.int i] => Q (.int (if i < 0 then -i else i))
  | _ => False
instance callAbs : CallD rAbsD dAbs where
  run := by
    intro O F B H σ ρ xs ds Q Q' h rx q k
    unfold dAbs at q
    split at q
    · rw [rpl_int1 rx]
      exact ⟨_, rfl, k _ _ _ _ h .refl (.int _) q⟩
    · exact q.elim
/-- repr -/
def flatD : PyData → Bool
  | .none => true
  | .bool _ => true
  | .int _ => true
  | .str _ => true
  | _ => false
def flatKv (kvs : List (PyData × PyData)) : Bool := (kvs.map (·.1)).all flatD && (kvs.map (·.2)).all flatD
def reprOk (d : PyData) : Prop := d.showable = true ∧ d.depth ≤ 100 ∧ d.shown.length ≤ sizeLine ∧ (d.hasDict = false ∨ ∃ kvs, d = .dict kvs ∧ flatKv kvs = true)
def rReprD : List V → Hp → VK → Prop := fun xs H Q => ∃ x d, xs = [x] ∧ Rp H x d ∧ reprOk d ∧ Q (.str d.shown) H
theorem reads_flat {h : Heap} {u : Value} {d : PyData} {as : List Addr} (r : Reads h u d as) (f : flatD d = true) : as = [] := by
  cases r <;> first | rfl | cases f
theorem readsAll_flat {h : Heap} : ∀ {ds : List PyData} {us : List Value} {as : List Addr}, ReadsAll h us ds as → ds.all flatD = true → as = []
  | [], us, as, r, _ => by cases r; rfl
  | d :: ds, us, as, r, f => by
    cases r with
    | cons a b =>
      rw [List.all_cons, Bool.and_eq_true] at f
      rw [reads_flat a f.1, readsAll_flat b f.2]
      rfl
theorem callr_repr (gd : X.A.guards = some []) (hu : X.A.units + 102 < cLine) : CallR X (.builtin "repr") rReprD := by
  intro pins s σ H xs us Q I r h
  obtain ⟨x, d, rfl, rp, ⟨ok1, ok2, ok3, ok4⟩, q⟩ := h
  obtain ⟨u, rfl, rx⟩ := vals1 r
  obtain ⟨as, rd⟩ := Rp.reads I d x u rp rx
  have byRef : ∀ a, u = .ref a → wpAny (model X.prog X.w) X.A (call (.builtin "repr") [u]) (EP X pins σ Q) X.xe s := fun a e => by
    subst e
    refine PySem.repr_of_reads' rd ok1 (fun z => ?_) gd (by omega) (fun _ _ e => e) (fun h' u tk hk => ⟨.str d.shown, H, I.kept hk, ⟨u, rfl⟩, q⟩) ok3
    rcases ok4 with ok4 | ⟨kvs, rfl, f⟩
    · rw [ok4] at z; cases z
    · unfold flatKv at f
      rw [Bool.and_eq_true] at f
      have hs : ∃ b, x = .ref b ∧ (b == sysModules) = false := by
        cases rp with
        | dk e r => exact ⟨_, rfl, (I.frzK e).1⟩
        | dt e r => exact ⟨_, rfl, (I.frzT e).1⟩
      obtain ⟨b, rfl, hs⟩ := hs
      cases (show Value.ref a = Value.ref b from rx)
      cases rd with
      | dict h1 h2 h3 h4 h5 =>
        rw [readsAll_flat h4 f.1, readsAll_flat h5 f.2]
        intro hm
        have e : sysModules = a := by simpa using hm
        rw [← e] at hs
        simp at hs
  cases rp with
  | non =>
    cases rx
    simp only [PyData.shown] at q
    exact PySem.P.repr_of_none ⟨.str _, H, I.tok _, ⟨_, rfl⟩, q⟩
  | bl b =>
    cases rx
    simp only [PyData.shown] at q
    exact PySem.P.repr_of_bool ⟨.str _, H, I.tok _, ⟨_, rfl⟩, q⟩
  | int i =>
    obtain ⟨t, rfl⟩ := rx
    simp only [PyData.shown] at q
    exact PySem.P.repr_of_int (by simpa [PyData.showable] using ok1) ⟨.str _, H, I.tok _, ⟨_, rfl⟩, q⟩
  | str z =>
    obtain ⟨t, rfl⟩ := rx
    simp only [PyData.shown] at q ok3
    exact PySem.P.repr_of_str ⟨.str _, H, I.tok _, ⟨_, rfl⟩, q⟩ ok3
  | lst e r => exact byRef _ rx
  | tup e r => exact byRef _ rx
  | dk e r => exact byRef _ rx
  | dt e r => exact byRef _ rx
def dRepr : DL1 := fun xs Q => match xs with
  | [d] => reprOk d ∧ Q (.str d.shown)
  | _ => False
instance callRepr : CallD rReprD dRepr where
  run := by
    intro O F B H σ ρ xs ds Q Q' h rx q k
    unfold dRepr at q
    split at q
    · cases rx with
      | cons a r =>
        cases r
        exact ⟨_, _, rfl, a.up h.eb, q.1, k _ _ _ _ h .refl (.str _) q.2⟩
    · exact q.elim
def dBits (a : DE) : DE := fun ρ Q => a ρ fun x ρ1 => match x with
  | .int i => Q (.int (Builtin.Int.intBits i : Nat)) ρ1
  | _ => False
instance semBits (Ta : TE) (a : DE) [i1 : SemE Ta a] : SemE (tBits Ta) (dBits a) where
  run := fun h q k => i1.run h q fun x H1 B1 ρ1 d h1 g1 rx q1 => by
    cases rx with
    | int i => exact ⟨i, rfl, k _ _ _ _ _ h1 g1 (.int _) q1⟩
    | _ => exact q1.elim
/-- sep.join(list of texts) -/
def tJoinD (to te : TE) : TE := fun σ H Q => to σ H fun x H1 => (∃ a, x = .str a) ∧ te σ H1 fun y H2 => ∃ a p, ∃ ys : List Str, x = .str a ∧ y = .ref p ∧ (H2 p = some (.lst (ys.map V.str)) ∨ H2 p = some (.tup (ys.map V.str))) ∧
  (ys.map (·.length)).sum + ys.length * a.length ≤ 16777216 ∧ Q (.str (Txt.join a ys)) H2
theorem pe_joinD {o e : Expr} {to te : TE} {apos pos : Pos} (ho : PE X o to) (he : PE X e te) (hs : starEach [e] X.env = [(false, eval e X.env)] := by rfl) (hbase : attributeBase o "join" X.env (eval o X.env) = eval o X.env := by rfl) (hline : (apos.endLine == pos.line) = true := by rfl) :
    PE X (.Call (.Attribute o "join" apos) [e] [] pos) (tJoinD to te) :=
  PE.of (pe_join (pe_M ho) (pe_M he) hs hbase hline) fun σ H Q h => ⟨_, h, fun v H1 ⟨⟨a, ea⟩, h2⟩ => ⟨⟨a, ea⟩, _, h2, fun y H2 ⟨a, p, ys, e1, e2, e3, e4, q⟩ => ⟨a, p, ys, e1, by rw [e2], e3.imp SqL.of SqT.of, e4, q⟩⟩⟩
def dStrOf (a : DE) (Q : Str → DEnv → Prop) : DEnv → Prop := fun ρ => a ρ fun x ρ1 => match x with
  | .str z => Q z ρ1
  | _ => False
def dJoinS (a b : DE) : DE := fun ρ Q => dStrOf a (fun z ρ1 => b ρ1 fun y ρ2 => ∃ ys : List Str, (y = .list (ys.map .str) ∨ y = .tuple (ys.map .str)) ∧ (ys.map (·.length)).sum + ys.length * z.length ≤ 16777216 ∧ Q (.str (Txt.join z ys)) ρ2) ρ
instance semJoin (Ta Tb : TE) (a b : DE) [i1 : SemE Ta a] [i2 : SemE Tb b] : SemE (tJoinD Ta Tb) (dJoinS a b) where
  run := fun h q k => i1.run h q fun x H1 B1 ρ1 d h1 g1 rx q1 => by
    cases rx with
    | str z =>
      refine ⟨⟨z, rfl⟩, i2.run h1 q1 fun y H2 B2 ρ2 d2 h2 g2 ry q2 => ?_⟩
      obtain ⟨ys, e, hz, q2⟩ := q2
      rcases e with rfl | rfl
      · cases ry with
        | lst e r =>
          have := rpl_strs r
          subst this
          exact ⟨z, _, ys, rfl, rfl, .inl (h2.eb _ _ e), hz, k _ _ _ _ _ h2 (g1.trans g2) (.str _) q2⟩
      · cases ry with
        | tup e r =>
          have := rpl_strs r
          subst this
          exact ⟨z, _, ys, rfl, rfl, .inr (h2.eb _ _ e), hz, k _ _ _ _ _ h2 (g1.trans g2) (.str _) q2⟩
    | _ => exact q1.elim
end
end DL

namespace DL
open PySem PySem.Spec PyProof.Rows L2

section
variable {X : Cx}
def tApp (i : Nat) (te : TE) : TS := fun D σ H => ∃ p xs0, σ[i]? = some (some (.ref p)) ∧ H p = some (.lst xs0) ∧ te σ H fun y H2 => ∃ xs, H2 p = some (.lst xs) ∧ xs.length < sizeLine ∧ D.nx σ (upd H2 p (.lst (xs ++ [y])))
theorem ps_app {i : Nat} {x : Str} {e : Expr} {te : TE} {px apos cpos pos : Pos} (ho : PE X (.Name x px) (tVar i)) (he : PE X e te)
    (hbase : attributeBase (.Name x px) "append" X.env (eval (.Name x px) X.env) = eval (.Name x px) X.env := by rfl)
    (hfew : ((backTo cpos (starEach (e :: []) X.env)).all (fun x => !x.1) && (backToKw cpos (keywordEach [] X.env)).all (fun x => x.1.isSome)
      && decide ((e :: ([] : List Expr)).length + ([] : List Keyword).length + (if ([] : List Keyword).isEmpty then 0 else 1) < 30)) = true := by rfl)
    (hline : (apos.endLine == cpos.line) = true := by rfl) (hs : starEach (e :: []) X.env = (false, eval e X.env) :: starEach [] X.env := by rfl) (hplain : (backTo cpos (starEach [] X.env)).any (·.1) = false := by rfl)
    (hsw : swapsWith (.Call (.Attribute (.Name x px) "append" apos) [e] [] cpos) none pos.line X.env = pure false := by rfl) :
    PS X (.Expr (.Call (.Attribute (.Name x px) "append" apos) [e] [] cpos) pos) (tApp i te) :=
  PS.of (ps_expr (pe_bm PySem.F.plainAttrs_list PySem.F.slot_list_append PySem.F.type_list_append mt_append ho (pa_cons (pe_M he) pa_nil hs) hbase hfew hline hs hplain) hsw)
    fun D σ H ⟨p, xs0, e1, e2, h⟩ => ⟨.ref p, e1, .inl ⟨rfl, _, .inl (.inl e2)⟩, _, h, fun y H2 ⟨xs, e3, hl, q⟩ => ⟨p, xs, y, rfl, rfl, e3, hl, q⟩⟩
def tSet (i : Nat) (te ti : TE) : TS := fun D σ H => te σ H fun x H1 => ∃ p, σ[i]? = some (some (.ref p)) ∧ ti σ H1 fun k H2 => ∃ xs j n, k = .int n ∧ H2 p = some (.lst xs) ∧ ixN xs.length n = some j ∧ D.nx σ (upd H2 p (.lst (xs.set j x)))
theorem ps_setI {i : Nat} {x : Str} {e ix : Expr} {te ti : TE} {px spos pos : Pos} (ho : PE X (.Name x px) (tVar i)) (he : PE X e te) (hi : PE X ix ti)
    (ha : ∀ v, assign (.Subscript (.Name x px) ix spos) X.env v = (do
      let ov ← holding [v] (eval (.Name x px) X.env)
      let iv ← holding [v, ov] (eval ix X.env)
      standAt spos
      holding [v, ov, iv] (setItem ov iv v)
      release [v, ov, iv] []) := by intro _; rfl)
    (hs : swapsWithSole [.Subscript (.Name x px) ix spos] e pos.line X.env = pure false := by rfl) (hw : swappedStores [.Subscript (.Name x px) ix spos] e X.env = pure none := by rfl)
    (h1 : (assignEach [.Subscript (.Name x px) ix spos] X.env).map (·.2) = [assign (.Subscript (.Name x px) ix spos) X.env] := by rfl) :
    PS X (.Assign [.Subscript (.Name x px) ix spos] e pos) (tSet i te ti) :=
  PS.of (ps_asg (pe_M he) (pg_sub ho (pe_M hi) set_list ha) hs hw h1) fun D σ H h => ⟨_, h, fun v H1 ⟨p, e1, h2⟩ => ⟨.ref p, e1, _, h2, fun k H2 ⟨xs, j, n, e3, e4, e5, q⟩ => ⟨p, xs, n, j, rfl, e3, e4, e5, q⟩⟩⟩
end
def dApp (i : Nat) (a : DE) : DS := fun D ρ => ownL ρ[i]? = true ∧ a ρ fun y ρ1 => match ρ1[i]? with
  | some (.l xs) => xs.length < sizeLine ∧ D.nx (ρ1.set i (.l (xs ++ [y])))
  | some (.g xs) => xs.length < sizeLine ∧ D.nx (ρ1.set i (.g (xs ++ [y])))
  | _ => False
theorem ownL_lst {O : Addr → Prop} {F B H : Hp} {σ : L2.St} {ρ : DEnv} (h : R O F B H σ ρ) {gi : Nat} (e : ownL ρ[gi]? = true) : ∃ p vs, σ[gi]? = some (some (.ref p)) ∧ H p = some (.lst vs) := by
  unfold ownL at e
  split at e
  · rename_i xs e1
    obtain ⟨o, e2, p, vs, rfl, e3, _⟩ := h.sl _ _ e1
    exact ⟨p, vs, e2, e3⟩
  · rename_i xs e1
    obtain ⟨o, e2, p, vs, rfl, e3, _⟩ := h.sl _ _ e1
    exact ⟨p, vs, e2, e3⟩
  · cases e
instance semApp (i : Nat) (Ta : TE) (a : DE) [i1 : SemE Ta a] : SemS (tApp i Ta) (dApp i a) where
  run := by
    intro O F B H σ ρ D D' h q e
    obtain ⟨e0, q⟩ := q
    obtain ⟨p, vs0, e1, e2⟩ := ownL_lst h e0
    refine ⟨p, vs0, e1, e2, i1.run h q fun y H1 B1 ρ1 d h1 g1 ry q1 => ?_⟩
    split at q1
    · rename_i xs es
      obtain ⟨o, e3, p', vs, rfl, e4, r4, n1, n2, n3⟩ := h1.sl _ _ es
      rw [e1] at e3
      cases e3
      refine ⟨vs, e4, by rw [r4.length]; exact q1.1, e.nx (h1.mut (t := .l (xs ++ [d])) es rfl e1 n1 n2 (by rw [e4]; exact fun z => nomatch z) ⟨p, vs ++ [y], rfl, upd_same, r4.append (.one ry), n1, n2, n3⟩ rfl) g1 q1.2⟩
    · rename_i xs es
      obtain ⟨o, e3, p', vs, rfl, e4, r4, n1, n2, n3⟩ := h1.sl _ _ es
      rw [e1] at e3
      cases e3
      refine ⟨vs, e4, by rw [r4.length]; exact q1.1, e.nx (h1.mut (t := .g (xs ++ [d])) es rfl e1 n1 n2 (by rw [e4]; exact fun z => nomatch z) ⟨p, vs ++ [y], rfl, upd_same, r4.append (.one ry), n1, n2, n3⟩ rfl) g1 q1.2⟩
    · exact q1.elim
def dSetI (i : Nat) (a b : DE) : DS := fun D ρ => a ρ fun x ρ1 => ownL ρ1[i]? = true ∧ b ρ1 fun y ρ2 => match y, ρ2[i]? with
  | .int n, some (.l xs) => ∃ j, ixN xs.length n = some j ∧ D.nx (ρ2.set i (.l (xs.set j x)))
  | .int n, some (.g xs) => ∃ j, ixN xs.length n = some j ∧ D.nx (ρ2.set i (.g (xs.set j x)))
  | _, _ => False
instance semSetI (i : Nat) (Ta Tb : TE) (a b : DE) [i1 : SemE Ta a] [i2 : SemE Tb b] : SemS (tSet i Ta Tb) (dSetI i a b) where
  run := by
    intro O F B H σ ρ D D' h q e
    refine i1.run h q fun x H1 B1 ρ1 d h1 g1 rx q1 => ?_
    obtain ⟨e0, q1⟩ := q1
    obtain ⟨p, vs0, e1, e2⟩ := ownL_lst h1 e0
    refine ⟨p, e1, i2.run h1 q1 fun y H2 B2 ρ2 d2 h2 g2 ry q2 => ?_⟩
    split at q2
    · rename_i n xs es
      cases ry
      obtain ⟨j, ej, q2⟩ := q2
      obtain ⟨o, e3, p', vs, rfl, e4, r4, n1, n2, n3⟩ := h2.sl _ _ es
      rw [e1] at e3
      cases e3
      exact ⟨vs, j, n, rfl, e4, by rw [r4.length]; exact ej, e.nx (h2.mut (t := .l (xs.set j d)) es rfl e1 n1 n2 (by rw [e4]; exact fun z => nomatch z) ⟨p, vs.set j x, rfl, upd_same, RpL.set (rx.up g2.ex) j r4, n1, n2, n3⟩ rfl) (g1.trans g2) q2⟩
    · rename_i n xs es
      cases ry
      obtain ⟨j, ej, q2⟩ := q2
      obtain ⟨o, e3, p', vs, rfl, e4, r4, n1, n2, n3⟩ := h2.sl _ _ es
      rw [e1] at e3
      cases e3
      exact ⟨vs, j, n, rfl, e4, by rw [r4.length]; exact ej, e.nx (h2.mut (t := .g (xs.set j d)) es rfl e1 n1 n2 (by rw [e4]; exact fun z => nomatch z) ⟨p, vs.set j x, rfl, upd_same, RpL.set (rx.up g2.ex) j r4, n1, n2, n3⟩ rfl) (g1.trans g2) q2⟩
    · exact q2.elim
def dAug (f : Int → Int → Int) (i : Nat) (a : DE) : DS := fun D ρ => match ρ[i]? with
  | some (.d (.int x)) => a ρ fun y ρ1 => match y with
    | .int b => D.nx (ρ1.set i (.d (.int (f x b))))
    | _ => False
  | _ => False
instance semAug (f : Int → Int → Int) (i : Nat) (Ta : TE) (a : DE) [i1 : SemE Ta a] : SemS (tAug i Ta (ipI f)) (dAug f i a) where
  run := by
    intro O F B H σ ρ D D' h q e
    unfold dAug at q
    split at q
    · rename_i x es
      obtain ⟨o, e1, v, rfl, r⟩ := h.sl _ _ es
      cases r
      refine ⟨_, e1, i1.run h q fun y H1 B1 ρ1 d h1 g1 ry q1 => ?_⟩
      cases ry with
      | int b => exact ⟨_, _, rfl, rfl, e.nx (h1.set_d (.int _)) g1 q1⟩
      | _ => exact q1.elim
    · exact q.elim
/-- x in an own list, left so -/
def dInV (neg : Bool) (a : DE) (i : Nat) : DE := fun ρ Q => a ρ fun x ρ1 => match ρ1[i]? with
  | some (.d y) => dIn neg x y fun z => Q z ρ1
  | some (.l xs) => dIn neg x (.list xs) fun z => Q z ρ1
  | _ => False
instance (priority := high) semInV (neg : Bool) (Ta : TE) (a : DE) (i : Nat) [i1 : SemE Ta a] : SemE (tOp (rInX neg) Ta (tVarF i)) (dInV neg a i) where
  run := by
    intro O F B H σ ρ Q Q' h q k
    refine i1.run h q fun x H1 B1 ρ1 dx h1 g1 rx q1 => ?_
    split at q1
    · rename_i y es
      obtain ⟨o, e1, v, rfl, r⟩ := h1.sl _ _ es
      exact ⟨v, e1, .inl ((op2In neg).run h1 rx r q1 fun v' H' B' d h' g' r' q' => k v' H' B' ρ1 d h' (g1.trans g') r' q')⟩
    · rename_i xs es
      obtain ⟨o, e1, p, vs, rfl, hp, r, nb, nf, no⟩ := h1.sl _ _ es
      refine ⟨_, e1, .inl (.inl ⟨dx, xs, rx.up h1.eb, .lst hp (r.up h1.eb), q1.1.1, q1.1.2, k _ _ _ _ _ h1 g1 (.bl _) q1.2⟩)⟩
    · exact q1.elim

def pick {α : Type} (d : α) (ix : List Nat) (l : List α) : List α := ix.map fun i => l.getD i d
structure CalK (P : Program) (w : World) (K : PySem.W.Frag) (mg : Str → Option Value) (base : Heap) (k : Nat) (x : Str) (ps ks : List Str) (ix : List Nat) (sp : Sp) : Prop where
  ex : ∃ f fd, FnG P w K mg base k f fd ps sp ∧ mg x = some (.ref f) ∧ PySem.W.keepIn K (.ref f) = true ∧ ∀ (s : Shared) (ws : List Value), ws.length = ks.length → BindsTo s fd ⟨[], ks.zip ws⟩ (ps.zip (pick .none ix ws))
def tCallK0 (sp : Sp) (ix : List Nat) (n : Nat) (t : TA) : TE := fun σ H Q => t σ H fun zs H1 => zs.length = n ∧ sp (pick .non ix zs) H1 Q E0
theorem vals_pick {zs : List V} {ws : List Value} (r : Vals zs ws) (ix : List Nat) : Vals (pick .non ix zs) (pick .none ix ws) := by
  unfold pick
  induction ix with
  | nil => exact .nil
  | cons i ix ih =>
    refine .cons (?_ : L2.RelV (zs.getD i V.non) (ws.getD i Value.none)) ih
    cases e : zs[i]? with
    | none => rw [List.getD_eq_getElem?_getD, List.getD_eq_getElem?_getD, e, r.none_of e]; rfl
    | some x =>
      obtain ⟨u, e2, ru⟩ := r.get e
      rw [List.getD_eq_getElem?_getD, List.getD_eq_getElem?_getD, e, e2]; exact ru
theorem rpl_pick {B : Hp} {zs : List V} {ds : List PyData} (r : RpL B zs ds) (ix : List Nat) : RpL B (pick .non ix zs) (pick .none ix ds) := by
  unfold pick
  induction ix with
  | nil => exact .nil
  | cons i ix ih =>
    refine .cons (?_ : Rp B (zs.getD i V.non) (ds.getD i PyData.none)) ih
    cases e : zs[i]? with
    | none =>
      have : ds[i]? = none := by
        have := List.getElem?_eq_none_iff.mp e
        exact List.getElem?_eq_none_iff.mpr (by rw [← r.length]; exact this)
      rw [List.getD_eq_getElem?_getD, List.getD_eq_getElem?_getD, e, this]; exact .non
    | some x =>
      obtain ⟨u, e2, ru⟩ := r.get' e
      rw [List.getD_eq_getElem?_getD, List.getD_eq_getElem?_getD, e, e2]; exact ru
theorem pe_calK {X : Cx} {k : Nat} {x : Str} {ps ks : List Str} {ix : List Nat} {sp : Sp} {p pos : Pos} {kws : List Keyword} {t : TA} (C : CalK X.prog X.w X.K X.mg X.base k x ps ks ix sp) (gd : X.A.guards = some []) (hr : Room k X.A) (hg : Gl X x) (hkw : PK X kws t)
    (hall : (backToKw pos (keywordEach kws X.env)).all (·.1.isSome) = true := by rfl) (hks : (backToKw pos (keywordEach kws X.env)).filterMap (·.1) = ks := by rfl) (hdb : (x == ("__debug__" : Str)) = false := by decide)
    (hpl : ((backTo pos (starEach [] X.env)).any (·.1) || (backToKw pos (keywordEach kws X.env)).any (·.1.isNone)) = false := by rfl) : PE X (.Call (.Name x p) [] kws pos) (tCallK0 sp ix ks.length t) := by
  obtain ⟨f, fd, F, hm, hk, hb⟩ := C.ex
  refine ⟨fun pins s σ H Q I h => wpAny_Call_Name_kw (ld_glob I hg hm ?_ hdb)⟩
  refine PySem.W.callWith_KW0 (h₀ := X.base) I.ok.mod.kin hk hall (thn (hkw.run pos pins s σ H _ I h) fun ws s2 hx => ?_) hpl
  obtain ⟨zs, H2, I2, rz, hn, q2⟩ := hx
  refine ⟨I2.kIn, ?_⟩
  rw [hks, List.append_nil]
  have hw : ws.length = ks.length := rz.length.symm.trans hn
  apply wpAny_call
  apply codeAny_mono (F.run X.A X.stack s2 H2 ⟨[], ks.zip ws⟩ (pick .none ix ws) (pick .non ix zs) Q E0 gd hr I2.env0 (hb s2 ws hw) (vals_pick rz ix) q2)
  intro res s' hq
  match res, hq with
  | .error e, hq => exact hq.elim
  | .ok (.ret u), hq => exact I2.after hq
  | .ok .next, hq => exact hq.elim
  | .ok .brk, hq => exact hq.elim
  | .ok .cont, hq => exact hq.elim
def dCallK (f : DFn) (ix : List Nat) (n : Nat) (a : DA) : DE := fun ρ Q => a ρ fun ds ρ1 => ds.length = n ∧ f (pick .none ix ds) fun d => Q d ρ1
def dCallKN (f : DFnN) (ix : List Nat) (n : Nat) (a : DA) : DA := fun ρ Q => a ρ fun ds ρ1 => ds.length = n ∧ f (pick .none ix ds) fun d => Q d ρ1
instance semCallK (f : DFn) (ix : List Nat) (n : Nat) (Ta : TA) (a : DA) [i1 : SemA Ta a] : SemE (tCallK0 (spD f) ix n Ta) (dCallK f ix n a) where
  run := fun h q k => i1.run h q fun vs H1 B1 ρ1 ds h1 g1 r1 q1 => ⟨r1.length.trans q1.1, B1, _, _, h1.eb, rpl_pick r1 ix, q1.2, fun d v H' B' hh bb bh ag rv qd =>
    k v H' B' ρ1 d (h1.grow bb bh hh ag) (g1.trans ⟨bb, fun p hp => ag p (h1.od p hp)⟩) rv qd⟩
instance semCallKN (f : DFnN) (ix : List Nat) (n : Nat) (Ta : TA) (a : DA) [i1 : SemA Ta a] : SemN (tCallK0 (spN f) ix n Ta) (dCallKN f ix n a) where
  run := fun h q k => i1.run h q fun vs H1 B1 ρ1 ds h1 g1 r1 q1 => ⟨r1.length.trans q1.1, B1, _, _, h1.eb, rpl_pick r1 ix, q1.2, fun d p us H' B' hh bb bh ag hp nb e r qd =>
    k p us d H' B' ρ1 (h1.grow bb bh hh ag) (g1.trans ⟨bb, fun p hp => ag p (h1.od p hp)⟩) e r nb (h1.ef.free hp) (fun o => h1.od p o hp) (h1.free_new hp) qd⟩

abbrev KD := List (Key × PyData)
def kvD (l : KD) : List (PyData × PyData) := l.map fun p => (kD p.1, p.2)
def putG {α : Type} (kvs : List (Key × α)) (k : Key) (v : α) : List (Key × α) := if kvs.any (fun kv => decide (kv.1 = k)) then kvs.map (fun kv => if kv.1 = k then (kv.1, v) else kv) else kvs ++ [(k, v)]
def mergeG {α : Type} (kvs more : List (Key × α)) : List (Key × α) := more.foldl (fun acc kv => putG acc kv.1 kv.2) kvs
/-- the same keys, the values told by data -/
def RpG (B : Hp) : List (Key × V) → KD → Prop := Paired fun p q => p.1 = q.1 ∧ Rp B p.2 q.2
theorem RpG.k {B : Hp} : ∀ {kvs : List (Key × V)} {l : KD}, RpG B kvs l → RpK B kvs (kvD l)
  | _, _, .nil => .nil
  | (k, v) :: kvs, (k', d) :: l, .cons a b => by
    obtain ⟨e, r⟩ := a
    cases (show k = k' from e)
    exact .cons r (RpG.k b)
theorem RpG.any {B : Hp} (k : Key) : ∀ {kvs : List (Key × V)} {l : KD}, RpG B kvs l → (kvs.any fun kv => decide (kv.1 = k)) = l.any fun kv => decide (kv.1 = k)
  | _, _, .nil => rfl
  | _, _, .cons a b => by rw [List.any_cons, List.any_cons, RpG.any k b, a.1]
theorem RpG.repl {B : Hp} {v : V} {d : PyData} (r : Rp B v d) (k : Key) : ∀ {kvs : List (Key × V)} {l : KD}, RpG B kvs l → RpG B (kvs.map fun kv => if kv.1 = k then (kv.1, v) else kv) (l.map fun kv => if kv.1 = k then (kv.1, d) else kv)
  | _, _, .nil => .nil
  | p :: _, q :: _, .cons a b => by
    refine .cons ?_ (RpG.repl r k b)
    show (if p.1 = k then (p.1, v) else p).1 = (if q.1 = k then (q.1, d) else q).1 ∧ Rp B (if p.1 = k then (p.1, v) else p).2 (if q.1 = k then (q.1, d) else q).2
    rw [← a.1]
    by_cases e : p.1 = k
    · rw [if_pos e, if_pos e]; exact ⟨rfl, r⟩
    · rw [if_neg e, if_neg e]; exact a
theorem RpG.app {B : Hp} {k : Key} {v : V} {d : PyData} (r : Rp B v d) : ∀ {kvs : List (Key × V)} {l : KD}, RpG B kvs l → RpG B (kvs ++ [(k, v)]) (l ++ [(k, d)])
  | _, _, .nil => .cons ⟨rfl, r⟩ .nil
  | _, _, .cons a b => .cons a (RpG.app r b)
theorem RpG.put {B : Hp} {v : V} {d : PyData} (r : Rp B v d) (k : Key) {kvs : List (Key × V)} {l : KD} (h : RpG B kvs l) : RpG B (putK kvs k v) (putG l k d) := by
  unfold putK putG
  rw [h.any k]
  split
  · exact h.repl r k
  · exact h.app r
theorem RpG.merge {B : Hp} : ∀ {more : List (Key × V)} {m : KD} {kvs : List (Key × V)} {l : KD}, RpG B more m → RpG B kvs l → RpG B (mergeK kvs more) (mergeG l m)
  | _, _, _, _, .nil, h => h
  | p :: more, q :: m, _, _, .cons a b, h => by
    unfold mergeK mergeG
    rw [List.foldl_cons, List.foldl_cons]
    rw [← a.1]
    exact RpG.merge b (h.put a.2 p.1)
class SemK (T : TE) (t : outParam (DEnv → (KD → DEnv → Prop) → Prop)) : Prop where
  run : ∀ {O : Addr → Prop} {F B H : Hp} {σ : L2.St} {ρ : DEnv} {Q : KD → DEnv → Prop} {Q' : VK}, R O F B H σ ρ → t ρ Q →
    (∀ p vs l H' B' ρ', R O F B' H' σ ρ' → Gr O B B' → H' p = some (.dK vs) → RpG B' vs l → B' p = none → F p = none → ¬ O p → Free σ ρ' p → Q l ρ' → Q' (.ref p) H') → T σ H Q'
def tLockN (t : TE) : TE := fun σ H Q => t σ H fun v H1 => ∃ d u, v = .ref d ∧ H1 d = some u ∧ Mut (some u) ∧ ∀ o, Q v (upd H1 d (.frz o u))
theorem pe_lockN {X : Cx} {e : Expr} {t : TE} (h : PE X e t) : PE X e (tLockN t) := ⟨fun pins s σ H Q I hq => thn (h.run pins s σ H _ I hq) fun v s1 hx => by
  obtain ⟨x, H1, I1, r, d, u, e1, e2, mu, q⟩ := hx
  obtain ⟨od, I2⟩ := I1.lock e2 mu
  exact ⟨x, _, I2, r, q od⟩⟩
theorem R.lockN {O : Addr → Prop} {F B H : Hp} {σ : L2.St} {ρ : DEnv} (h : R O F B H σ ρ) {p : Addr} {o : HO} (nb : B p = none) (nf : F p = none) (f : Free σ ρ p) : R O F (upd B p o) (upd H p o) σ ρ where
  eb := h.eb.up2m nb
  ef := h.ef.mut nf
  fo := h.fo
  od := fun q hq => by
    by_cases z : q = p
    · subst z; rw [upd_same]; exact fun y => nomatch y
    · rw [upd_ne z]; exact h.od q hq
  len := h.len
  sl := fun j t ej => by
    obtain ⟨o', e1, e2⟩ := h.sl j t ej
    have b : Ex B (upd B p o) := Ex.new nb
    refine ⟨o', e1, ?_⟩
    cases t with
    | no => trivial
    | d x => obtain ⟨v, e3, r⟩ := e2; exact ⟨v, e3, r.up b⟩
    | v a u => exact e2
    | l xs =>
      obtain ⟨q, vs, e3, e4, r, n1, n2, n3⟩ := e2
      have nq : q ≠ p := fun z => f j _ ej rfl (by rw [e1, e3, z])
      exact ⟨q, vs, e3, by rw [upd_ne nq]; exact e4, r.up b, by rw [upd_ne nq]; exact n1, n2, n3⟩
    | g xs =>
      obtain ⟨q, vs, e3, e4, r, n1, n2, n3⟩ := e2
      have nq : q ≠ p := fun z => f j _ ej rfl (by rw [e1, e3, z])
      exact ⟨q, vs, e3, by rw [upd_ne nq]; exact e4, r.up b, by rw [upd_ne nq]; exact n1, n2, n3⟩
    | k xs =>
      obtain ⟨q, vs, e3, e4, r, n1, n2, n3⟩ := e2
      have nq : q ≠ p := fun z => f j _ ej rfl (by rw [e1, e3, z])
      exact ⟨q, vs, e3, by rw [upd_ne nq]; exact e4, r.up b, by rw [upd_ne nq]; exact n1, n2, n3⟩
  sep := h.sep
def dK (a : DEnv → (KD → DEnv → Prop) → Prop) : DE := fun ρ Q => a ρ fun l ρ1 => Q (.dict (kvD l)) ρ1
instance semLockN (T : TE) (a : DEnv → (KD → DEnv → Prop) → Prop) [i1 : SemK T a] : SemE (tLockN T) (dK a) where
  run := fun h q k => i1.run h q fun p vs l H1 B1 ρ1 h1 g1 hp rl nb nf no fr q1 => ⟨p, _, rfl, hp, trivial, fun o => by
    have g : Gr _ B1 (upd B1 p (.frz o (.dK vs))) := Gr.share nb no
    exact k _ _ _ _ _ (h1.lockN nb nf fr) (g1.trans g) (.dk upd_same (rl.k.up g.ex)) q1⟩
/-- dict(list of pairs) -/
def rDictP : List V → Hp → VK → Prop := fun xs H Q => ∃ (a : Addr) (ps : List Addr) (kvs : List (Key × V)), xs = [.ref a] ∧ H a = some (.lst (ps.map V.ref)) ∧ Paired (fun p kv => H p = some (.tup [kV kv.1, kv.2])) ps kvs ∧
  ∀ p, H p = none → Q (.ref p) (upd H p (.dK (mergeK [] kvs)))
theorem callr_dictP {X : Cx} (hc : X.calm = true) : CallR X (.type "dict") rDictP := CallR.of (call_dictP hc) fun xs H Q ⟨a, ps, kvs, e, h, pr, q⟩ => ⟨a, ps, kvs, e, .of h, Paired.mapP pr fun _ _ z => .of z, q⟩
def pairD (l : KD) : List PyData := l.map fun p => .tuple [kD p.1, p.2]
theorem rp_kD {B : Hp} {v : V} {k : Key} (h : Rp B v (kD k)) : v = kV k := by
  cases k <;> (cases h; rfl)
theorem pairs_at {B H : Hp} (e : Ex B H) : ∀ {l : KD} {vs : List V}, RpL B vs (pairD l) → ∃ ps kvs, vs = ps.map V.ref ∧ Paired (fun p (kv : Key × V) => H p = some (.tup [kV kv.1, kv.2])) ps kvs ∧ RpG B kvs l
  | [], vs, h => by cases h; exact ⟨[], [], rfl, .nil, .nil⟩
  | (k, d) :: l, vs, h => by
    cases h with
    | cons a r =>
      obtain ⟨ps, kvs, rfl, p1, p2⟩ := pairs_at e r
      cases a with
      | tup e1 r1 =>
        cases r1 with
        | cons a1 r1 =>
          cases r1 with
          | cons a2 r2 =>
            cases r2
            have := rp_kD a1
            subst this
            exact ⟨_ :: ps, (k, _) :: kvs, rfl, .cons (e _ _ e1) p1, .cons ⟨rfl, a2⟩ p2⟩
def dDictP (a : DA) : DEnv → (KD → DEnv → Prop) → Prop := fun ρ Q => a ρ fun xs ρ1 => ∃ l : KD, xs = [.list (pairD l)] ∧ Q (mergeG [] l) ρ1
instance semDictP (Ta : TA) (a : DA) [i1 : SemA Ta a] : SemK (tCB rDictP Ta) (dDictP a) where
  run := fun h q k => i1.run h q fun vs H1 B1 ρ1 ds h1 g1 r1 q1 => by
    obtain ⟨l, rfl, q1⟩ := q1
    cases r1 with
    | cons a r =>
      cases r
      cases a with
      | lst e r =>
        obtain ⟨ps, kvs, rfl, p1, p2⟩ := pairs_at h1.eb r
        exact ⟨_, ps, kvs, rfl, h1.eb _ _ e, p1, fun p hp => k p _ _ _ _ _ (h1.newO hp) g1 upd_same (RpG.merge p2 .nil) (h1.eb.free hp) (h1.ef.free hp) (fun o => h1.od p o hp) (h1.free_new hp) q1⟩
end DL

namespace DL
open PySem PySem.Spec PyProof.Rows L2
theorem hu1 {A : Around} {k : Nat} (hr : Room k A) : A.units + 1 < cLine := by have := hr.un; omega
theorem hu64 {A : Around} {k : Nat} (hr : Room k A) : A.units + 64 < cLine := by have := hr.un; omega
theorem hu65 {A : Around} {k : Nat} (hr : Room k A) : A.units + 65 < cLine := by have := hr.un; omega
theorem hu102 {A : Around} {k : Nat} (hr : Room k A) : A.units + 102 < cLine := by have := hr.un; omega
theorem ps_setLcD {X : Cx} {i : Nat} {y : Str} {py : Pos} {elt tg iter : Expr} {ifs : List Expr} {scope : Scope} {own : List (Str × Nat)} {vs : List Nat} {pos spos : Pos} {wi : TI} {g : TG} {tt : TT} {te : TE}
    (hy : X.N[i]? = some y) (hyl : X.env.scope.names.lookup y = some .local)
    (hsw : swapsWith (.ListComp elt [⟨tg, iter, ifs, 0⟩] scope pos) (some (.Name y py)) spos.line X.env = pure true) (hv : own.map (·.2) = vs) (hc : X.calm = true) (hN : X.N.Nodup) (hi : PI X tg iter wi) (ok : BlkOk X.N X.env.scope scope own)
    (hg : ∀ (s : Shared) (H : Hp) (C : Addr) (cl : List (Str × Addr)) (fp : List Addr), PG (X.blk s H scope (compEnvC scope cl C X.env) fp) tg g) (ht : ∀ (s : Shared) (H : Hp) (C : Addr) (cl : List (Str × Addr)) (fp : List Addr), PTs (X.blk s H scope (compEnvC scope cl C X.env) fp) ifs tt)
    (he : ∀ (s : Shared) (H : Hp) (C : Addr) (cl : List (Str × Addr)) (fp : List Addr), PE (X.blk s H scope (compEnvC scope cl C X.env) fp) elt te) (hs : ∀ x, foldedSetIterable iter X.env x = pure x := by intro _; rfl) :
    PS X (.Assign [.Name y py] (.ListComp elt [⟨tg, iter, ifs, 0⟩] scope pos) spos) (tAsg (tLc wi g tt te vs) (gName i)) := by
  subst hv
  exact ps_setLc hc hN hy hyl hsw hi ok hg ht he hs
theorem pe_gS {X : Cx} {x s : Str} {t : Tok} {pos : Pos} (hg : Gl X x) (hm : X.mg x = some (.str s t)) (hd : (x == ("__debug__" : Str)) = false := by decide) : PE X (.Name x pos) (tC (.str s)) := pe_glob (v := .str s) hg hm ⟨t, rfl⟩ hd
theorem pe_gI {X : Cx} {x : Str} {i : Int} {t : Tok} {pos : Pos} (hg : Gl X x) (hm : X.mg x = some (.int i t)) (hd : (x == ("__debug__" : Str)) = false := by decide) : PE X (.Name x pos) (tC (.int i)) := pe_glob (v := .int i) hg hm ⟨t, rfl⟩ hd
theorem mkCal {P : Program} {w : World} {K : PySem.W.Frag} {mg : Str → Option Value} {base : Heap} {k : Nat} {x : Str} {ps : List Str} {sp : Sp} {f : Addr} {fd : FuncData} (F : FnG P w K mg base k f fd ps sp) (hm : mg x = some (.ref f))
    (hk : PySem.W.keepIn K (.ref f) = true) (hb : Binds K fd ps []) : Cal P w K mg base k x ps sp := ⟨⟨f, fd, F, hm, hk, hb⟩⟩
end DL

namespace DL
open PySem PySem.Spec PyProof.Rows L2

def keepO : Option Sl → Sl
  | some s => keepS s
  | none => .no
theorem backD_one (ρ ρ' : DEnv) (i : Nat) : backD ρ ρ' [i] = ρ'.set i (keepO ρ[i]?) := by
  show List.set ρ' i _ = List.set ρ' i _
  cases ρ[i]? <;> rfl
theorem set_self {α : Type} : ∀ (l : List α) (i : Nat) (a : α), (∀ b, l[i]? = some b → b = a) → l.set i a = l
  | [], _, _, _ => rfl
  | x :: l, 0, a, h => by
    have := h x rfl
    rw [this]; rfl
  | x :: l, i + 1, a, h => by
    show x :: l.set i a = x :: l
    rw [set_self l i a fun b e => h b e]
/-- the slot's own value would be kept -/
def Kept (ρ : DEnv) (i : Nat) : Prop := ∀ s, ρ[i]? = some s → keepS s = s
theorem back_self {ρ : DEnv} {i : Nat} (h : Kept ρ i) (s : Sl) : (ρ.set i s).set i (keepO ρ[i]?) = ρ := by
  rw [List.set_set]
  refine set_self ρ i _ fun b e => ?_
  rw [e]
  exact (h b e).symm
/-- a comprehension with one name whose test and element are functions of the item -/
theorem lc_run {i : Nat} {tt : DT} {te : DE} (f : PyData → Bool) (g : PyData → PyData) {ρ : DEnv} (hk : Kept ρ i) {Q : List PyData → DEnv → Prop} : ∀ (xs acc : List PyData),
    (∀ x ∈ xs, ∀ Q', Q' (f x) (ρ.set i (.d x)) → tt (ρ.set i (.d x)) Q') → (∀ x ∈ xs, f x = true → ∀ Q', Q' (g x) (ρ.set i (.d x)) → te (ρ.set i (.d x)) Q') → acc.length + xs.length ≤ 16000000 →
    Q (acc ++ (xs.filter f).map g) ρ → lcGo (gSet i) tt te [i] xs acc ρ Q
  | [], acc, _, _, _, q => by
    show Q acc ρ
    simpa using q
  | x :: xs, acc, ht, he, hl, q => by
    have e1 : (wipeD ρ [i]).set i (.d x) = ρ.set i (.d x) := List.set_set ..
    refine ⟨by rw [sizeLine_eq]; simp at hl; omega, ?_⟩
    show tt ((wipeD ρ [i]).set i (.d x)) _
    rw [e1]
    refine ht x List.mem_cons_self _ ?_
    have hr : acc.length + xs.length ≤ 16000000 := by simp at hl; omega
    cases hf : f x with
    | true =>
      rw [if_pos rfl]
      refine he x List.mem_cons_self hf _ ?_
      rw [backD_one, back_self hk]
      refine lc_run f g hk xs _ (fun y hy => ht y (List.mem_cons_of_mem _ hy)) (fun y hy => he y (List.mem_cons_of_mem _ hy)) (by simp at hl ⊢; omega) ?_
      simpa [List.filter_cons, hf] using q
    | false =>
      rw [if_neg Bool.false_ne_true, backD_one, back_self hk]
      refine lc_run f g hk xs _ (fun y hy => ht y (List.mem_cons_of_mem _ hy)) (fun y hy => he y (List.mem_cons_of_mem _ hy)) hr ?_
      simpa [List.filter_cons, hf] using q
/-- .. told by an invariant -/
theorem lc_inv {g : DG} {tt : DT} {te : DE} {vs : List Nat} {Q : List PyData → DEnv → Prop} (W : List PyData → List PyData → DEnv → Prop)
    (turn : ∀ x xs acc ρ, W (x :: xs) acc ρ → acc.length < sizeLine ∧ g x (wipeD ρ vs) fun ρ1 => tt ρ1 fun b ρ2 => if b = true then te ρ2 fun y ρ3 => W xs (acc ++ [y]) (backD ρ ρ3 vs) else W xs acc (backD ρ ρ2 vs))
    (mg : ∀ x ρ Q1 Q2, (∀ ρ', Q1 ρ' → Q2 ρ') → g x ρ Q1 → g x ρ Q2) (mt : ∀ ρ Q1 Q2, (∀ b ρ', Q1 b ρ' → Q2 b ρ') → tt ρ Q1 → tt ρ Q2) (me : ∀ ρ Q1 Q2, (∀ b ρ', Q1 b ρ' → Q2 b ρ') → te ρ Q1 → te ρ Q2)
    (fin : ∀ acc ρ, W [] acc ρ → Q acc ρ) : ∀ (xs acc : List PyData) (ρ : DEnv), W xs acc ρ → lcGo g tt te vs xs acc ρ Q
  | [], acc, ρ, h => fin acc ρ h
  | x :: xs, acc, ρ, h => by
    obtain ⟨h1, h2⟩ := turn x xs acc ρ h
    refine ⟨h1, mg _ _ _ _ (fun ρ1 h3 => mt _ _ _ (fun b ρ2 h4 => ?_) h3) h2⟩
    cases b with
    | true =>
      rw [if_pos rfl] at h4 ⊢
      exact me _ _ _ (fun y ρ3 h5 => lc_inv W turn mg mt me fin xs _ _ h5) h4
    | false =>
      rw [if_neg Bool.false_ne_true] at h4 ⊢
      exact lc_inv W turn mg mt me fin xs _ _ h4
/-- a loop by an invariant of the rest and the slots -/
theorem for_inv {g : DG} {t : DS} {D : DEnds} (W : List PyData → DEnv → Prop) (turn : ∀ x xs ρ, W (x :: xs) ρ → g x ρ fun ρ1 => ∀ D', D'.bk = D.nx → D'.rt = D.rt → D'.rn = D.rn → (∀ ρ', W xs ρ' → D'.nx ρ') → (∀ ρ', W xs ρ' → D'.ct ρ') → t D' ρ1)
    (mg : ∀ x ρ Q1 Q2, (∀ ρ', Q1 ρ' → Q2 ρ') → g x ρ Q1 → g x ρ Q2) (fin : ∀ ρ, W [] ρ → D.nx ρ) : ∀ (xs : List PyData) (ρ : DEnv), W xs ρ → forGo g t D xs ρ
  | [], ρ, h => fin ρ h
  | x :: xs, ρ, h => mg _ _ _ _ (fun ρ1 h1 => h1 _ rfl rfl rfl (fun ρ' h' => for_inv W turn mg fin xs ρ' h') fun ρ' h' => for_inv W turn mg fin xs ρ' h') (turn x xs ρ h)

/-- .. over one name -/
theorem for_g {i : Nat} {t : DS} {D : DEnds} (W : List PyData → DEnv → Prop) (turn : ∀ x xs ρ, W (x :: xs) ρ → ∀ K : DEnv → Prop, (∀ ρ', W xs ρ' → K ρ') → t { nx := K, ct := K, bk := D.nx, rt := D.rt, rn := D.rn } (ρ.set i (.d x))) (fin : ∀ ρ, W [] ρ → D.nx ρ) :
    ∀ (xs : List PyData) (ρ : DEnv), W xs ρ → forGo (gSet i) t D xs ρ
  | [], ρ, h => fin ρ h
  | x :: xs, ρ, h => turn x xs ρ h _ fun ρ' h' => for_g W turn fin xs ρ' h'
/-- a comprehension over one name, by an invariant -/
theorem lc_g {i : Nat} {tt : DT} {te : DE} {Q : List PyData → DEnv → Prop} (W : List PyData → List PyData → DEnv → Prop)
    (turn : ∀ x xs acc ρ, W (x :: xs) acc ρ → acc.length < sizeLine ∧ ∀ K : List PyData → DEnv → Prop, (∀ acc' ρ', W xs acc' ρ' → K acc' ρ') → tt (ρ.set i (.d x)) fun b ρ2 => if b = true then te ρ2 fun y ρ3 => K (acc ++ [y]) (ρ3.set i (keepO ρ[i]?)) else K acc (ρ2.set i (keepO ρ[i]?)))
    (fin : ∀ acc ρ, W [] acc ρ → Q acc ρ) : ∀ (xs acc : List PyData) (ρ : DEnv), W xs acc ρ → lcGo (gSet i) tt te [i] xs acc ρ Q
  | [], acc, ρ, h => fin acc ρ h
  | x :: xs, acc, ρ, h => by
    obtain ⟨h1, h2⟩ := turn x xs acc ρ h
    refine ⟨h1, ?_⟩
    have e1 : (wipeD ρ [i]).set i (.d x) = ρ.set i (.d x) := List.set_set ..
    have := h2 (fun acc' ρ' => lcGo (gSet i) tt te [i] xs acc' ρ' Q) fun acc' ρ' h' => lc_g W turn fin xs acc' ρ' h'
    show tt ((wipeD ρ [i]).set i (.d x)) _
    rw [e1]
    simp only [backD_one]
    exact this

theorem shaped_of {d : PyData} (h1 : d.canLay0 = true) (h2 : d.depth ≤ 64) : SeqAt.shaped d = true := by
  show (d.canLay0 && decide (d.depth ≤ 64)) = true
  rw [h1, decide_eq_true h2]; rfl
theorem shaped_none : SeqAt.shaped .none = true := by decide
theorem shaped_bool (b : Bool) : SeqAt.shaped (.bool b) = true := shaped_of (by simp [PyData.canLay0]) (by simp [PyData.depth])
theorem shaped_int (i : Int) : SeqAt.shaped (.int i) = true := shaped_of (by simp [PyData.canLay0]) (by simp [PyData.depth])
theorem shaped_str {i : Str} (h : PyData.strOk i = true) : SeqAt.shaped (.str i) = true := shaped_of (by simp [PyData.canLay0, h]) (by simp [PyData.depth])
theorem layAll {ds : List PyData} (h : ∀ d ∈ ds, d.canLay0 = true) : PyData.canLayAll0 ds = true := by
  induction ds with
  | nil => simp [PyData.canLayAll0]
  | cons d ds ih => simp [PyData.canLayAll0, h d List.mem_cons_self, ih fun e he => h e (List.mem_cons_of_mem _ he)]
theorem depthAll {ds : List PyData} {n : Nat} (h : ∀ d ∈ ds, d.depth ≤ n) : PyData.depthAll ds ≤ n := by
  induction ds with
  | nil => simp [PyData.depthAll]
  | cons d ds ih =>
    have h1 := h d List.mem_cons_self
    have h2 := ih fun e he => h e (List.mem_cons_of_mem _ he)
    simp only [PyData.depthAll]
    omega
theorem shaped_list {ds : List PyData} {n : Nat} (h : ∀ d ∈ ds, d.canLay0 = true ∧ d.depth ≤ n) (hn : n + 1 ≤ 64) : SeqAt.shaped (.list ds) = true := by
  have := depthAll fun d hd => (h d hd).2
  exact shaped_of (by simp only [PyData.canLay0]; exact layAll fun d hd => (h d hd).1) (by simp only [PyData.depth]; omega)
theorem shaped_tuple {ds : List PyData} {n : Nat} (h : ∀ d ∈ ds, d.canLay0 = true ∧ d.depth ≤ n) (hn : n + 1 ≤ 64) : SeqAt.shaped (.tuple ds) = true := by
  have := depthAll fun d hd => (h d hd).2
  exact shaped_of (by simp only [PyData.canLay0]; exact layAll fun d hd => (h d hd).1) (by simp only [PyData.depth]; omega)
def flatOk : PyData → Bool
  | .none => true
  | .bool _ => true
  | .int _ => true
  | .str x => PyData.strOk x
  | _ => false
theorem flat_lay {d : PyData} (h : flatOk d = true) : d.canLay0 = true ∧ d.depth ≤ 0 := by
  cases d with
  | str x => exact ⟨by simp only [PyData.canLay0]; exact h, by simp [PyData.depth]⟩
  | none => simp [PyData.canLay0, PyData.depth]
  | bool x => simp [PyData.canLay0, PyData.depth]
  | int x => simp [PyData.canLay0, PyData.depth]
  | _ => cases h
theorem shaped_flats {ds : List PyData} (h : ∀ d ∈ ds, flatOk d = true) : SeqAt.shaped (.list ds) = true := shaped_list (n := 0) (fun d hd => flat_lay (h d hd)) (by decide)
theorem signs_ok {z : Str} (h : PyData.strOk z = true) : ∀ d ∈ signs z, flatOk d = true := fun d hd => by
  unfold signs at hd
  obtain ⟨c, hc, rfl⟩ := List.mem_map.mp hd
  have h' : z.cps.all (· < 0x110000) = true := h
  have := Array.all_eq_true'.mp h' c (by simpa using hc)
  show PyData.strOk ⟨#[c]⟩ = true
  simp only [PyData.strOk]
  simpa using this
theorem eqv_int (i : Int) : PyData.eqv (.int i) (.int i) = true := by simp [PyData.eqv]
theorem eqv_nil (l : List PyData) : PyData.eqv (.list l) (.list []) = l.isEmpty := by cases l <;> simp [PyData.eqv, PyData.eqvAll]
theorem kept_no {ρ : DEnv} {i : Nat} (h : ρ[i]? = some .no) : Kept ρ i := fun s e => by rw [h] at e; cases e; rfl
theorem rng_mem {lo hi : Int} {x : PyData} (h : x ∈ rng lo hi) : ∃ i : Int, x = .int i ∧ lo ≤ i ∧ i < hi := by
  unfold rng at h
  obtain ⟨k, hk, rfl⟩ := List.mem_map.mp h
  have := List.mem_range.mp hk
  exact ⟨lo + k, rfl, by omega, by omega⟩
theorem getD_nat {xs : List PyData} {i : Int} (h0 : 0 ≤ i) (h1 : i < xs.length) : atI xs i = some (xs.getD i.toNat .none) ∧ xs.getD i.toNat .none ∈ xs := by
  have hl : i.toNat < xs.length := by omega
  have e : xs[i.toNat]? = some xs[i.toNat] := List.getElem?_eq_getElem hl
  have e2 : xs.getD i.toNat .none = xs[i.toNat] := by rw [List.getD_eq_getElem?_getD, e]; rfl
  refine ⟨?_, by rw [e2]; exact List.getElem_mem hl⟩
  have := atI_nat (xs := xs) (j := i.toNat) e
  rw [e2, ← this]
  congr 1
  omega
end DL

namespace DL
open PySem PySem.Spec PyProof.Rows L2

def cellF (ns : List Int) (i : Int) : Int := if i < ns.length then ns.getD i.toNat 0 else (ns.take 1).sum % 1000003
/-- the script at its address -/
def Script (K : PySem.W.Frag) (ns : List Int) (a : Addr) (u : Option (Obj × List V)) : Prop := ∀ F H : Hp, (∀ z, u = some z → F a = some (.frz z.1 (.lst z.2))) → Ex F H → SqL K H a (ns.map V.int)
theorem script_of {K : PySem.W.Frag} {ns : List Int} {a : Addr} {H : Hp} (hO : Only H) (h : SqL K H a (ns.map V.int)) : ∃ u, (∀ z, u = some z → H a = some (.frz z.1 (.lst z.2))) ∧ Script K ns a u := by
  rcases h with h | h
  · rcases hO a with e | ⟨o, xs, e⟩
    · rcases h with h | ⟨o, h⟩ <;> (rw [e] at h; cases h)
    · have ex : xs = ns.map V.int := by
        rcases h with h | ⟨o, h⟩ <;> (rw [e] at h; cases h)
        rfl
      subst ex
      exact ⟨some (o, _), fun z hz => by cases hz; exact e, fun F H' hF ex => .inl (.inr ⟨o, ex _ _ (hF _ rfl)⟩)⟩
  · exact ⟨none, (fun z hz => by cases hz), fun F H' hF ex => .inr h⟩
/-- the cell of a script -/
def spC (K : PySem.W.Frag) : Sp := fun vs H Q _ => ∃ a ns i, vs = [.ref a, .int i] ∧ SqL K H a (ns.map V.int) ∧ 0 ≤ i ∧ ∀ H', Ex H H' → Q (.int (cellF ns i)) H'
def TCELL (K : PySem.W.Frag) : TS := tSeq (tIfS (tTest (tOp rLtD (tVarF 1) (tCB (fun xs H Q => ∃ p ys, xs = [.ref p] ∧ (SqL K H p ys ∨ SqT K H p ys) ∧ Q (.int ys.length) H) (tCons (tVarF 0) tNil)))) (tRet (tOp (rIx K) (tVarF 0) (tVarF 1))) tNext)
  (tRet (tOp rModD (tCB (rSum K) (tCons (tSl (rSlL K) (tVarF 0) tNoPart (tPart (tC (.int 1)))) tNil)) (tC (.int 1000003))))
theorem cell_body {K : PySem.W.Frag} {N : List Str} {vs : List V} {H : Hp} {Q : VK} {E : XK} {D : Ends} (h : spC K vs H Q E) (hd : D.rt = Q) : TCELL K D (L2.start N vs) H := by
  obtain ⟨a, ns, i, rfl, hs, hi, k⟩ := h
  refine ⟨.int i, rfl, .inl ⟨.ref a, rfl, .inl ⟨a, ns.map V.int, rfl, .inl hs, .inl ⟨i, _, rfl, rfl, _, rfl, ?_⟩⟩⟩⟩
  rw [List.length_map]
  by_cases hl : i < ns.length
  · rw [decide_eq_true hl]
    show tRet (tOp (rIx K) (tVarF 0) (tVarF 1)) _ _ _
    refine ⟨.ref a, rfl, .inl ⟨.int i, rfl, .inl (.inl ⟨a, ns.map V.int, i, .int (cellF ns i), rfl, rfl, hs, ?_, ?_⟩)⟩⟩
    · unfold cellF
      rw [if_pos hl]
      have hn : i.toNat < ns.length := by omega
      have e : (ns.map V.int)[i.toNat]? = some (.int (ns.getD i.toNat 0)) := by
        rw [List.getElem?_map, List.getElem?_eq_getElem hn, List.getD_eq_getElem?_getD, List.getElem?_eq_getElem hn]; rfl
      have := atI_nat (xs := ns.map V.int) (j := i.toNat) e
      rw [show i = ((i.toNat : Nat) : Int) by omega]
      exact this
    · rw [hd]; exact k H (Ex.refl H)
  · rw [decide_eq_false hl]
    show tRet (tOp rModD (tCB (rSum K) (tCons (tSl (rSlL K) (tVarF 0) tNoPart (tPart (tC (.int 1)))) tNil)) (tC (.int 1000003))) _ _ _
    refine ⟨.ref a, rfl, .inl ⟨1, rfl, a, ns.map V.int, rfl, hs, fun p hp => ?_⟩⟩
    have e : cutV (ns.map V.int) none (some 1) = (ns.take 1).map V.int := by
      cases ns with
      | nil => rfl
      | cons n ns =>
        have e1 : HT.sIx (ns.length + 1) 0 none = 0 := rfl
        have e2 : HT.sIx (ns.length + 1) (ns.length + 1) (some 1) = 1 := by
          unfold HT.sIx
          simp
          try omega
        unfold cutV
        simp [e1, e2]
    refine ⟨p, ns.take 1, rfl, .inl (.inl (by rw [upd_same, e])), _, _, rfl, rfl, (by decide : (0 : Int) < 1000003), ?_⟩
    rw [hd]
    have := k (upd H p (.lst (cutV (ns.map V.int) none (some 1)))) (Ex.new hp)
    unfold cellF at this
    rw [if_neg hl] at this
    exact this
def dCallC (K : PySem.W.Frag) (gi : Nat) (a : DA) : DE := fun ρ Q => ∃ sa u ns, ρ[gi]? = some (.v sa u) ∧ Script K ns sa u ∧ a ρ fun ds ρ1 => ∃ i, ds = [.int i] ∧ 0 ≤ i ∧ Q (.int (cellF ns i)) ρ1
instance (priority := high) semCallC (K : PySem.W.Frag) (gi : Nat) (E : XK) (Ta : TA) (a : DA) [i1 : SemA Ta a] : SemE (tCall (spC K) [] E (tCons (tVarF gi) Ta)) (dCallC K gi a) where
  run := by
    intro O F B H σ ρ Q Q' h q k
    obtain ⟨sa, u, ns, e, hs, q⟩ := q
    obtain ⟨o, e1, e2, e3⟩ := h.sl _ _ e
    subst e2
    refine ⟨.ref sa, e1, .inl ?_⟩
    refine i1.run h q fun vs H1 B1 ρ1 ds h1 g1 r1 q1 => ?_
    obtain ⟨i, rfl, hi, q1⟩ := q1
    have := rpl_int1 r1
    subst this
    exact ⟨sa, ns, i, rfl, hs F H1 e3 h1.ef, hi, fun H' ex => k _ _ _ _ _ (h1.grow (Ex.refl _) (h1.eb.trans ex) ex fun _ _ => .inl rfl) g1 (.int _) q1⟩
/-- a def whose first argument is the script: a new list, a value -/
abbrev DFnS := List Int → List PyData → (List PyData → Prop) → Prop
abbrev DFnL := List Int → (PyData → Prop) → Prop
def spS (K : PySem.W.Frag) (f : DFnS) : Sp := fun vs H Q _ => ∃ a u ns ws B ds Qd, vs = .ref a :: ws ∧ (∀ z, u = some z → H a = some (.frz z.1 (.lst z.2))) ∧ Script K ns a u ∧ Ex B H ∧ RpL B ws ds ∧ f ns ds Qd ∧
  ∀ ds' p us H' B', Ex H H' → Ex B B' → Ex B' H' → Ag H B B' → H p = none → B' p = none → H' p = some (.lst us) → RpL B' us ds' → Qd ds' → Q (.ref p) H'
def spL (K : PySem.W.Frag) (f : DFnL) : Sp := fun vs H Q _ => ∃ a u ns Qd, vs = [.ref a] ∧ (∀ z, u = some z → H a = some (.frz z.1 (.lst z.2))) ∧ Script K ns a u ∧ f ns Qd ∧ ∀ d v H' B', Rp B' v d → Qd d → Q v H'
theorem r_startS {N : List Str} {B H : Hp} {vs : List V} {ds : List PyData} {a : Addr} {u : Option (Obj × List V)} (e : Ex B H) (r : RpL B vs ds) (hu : ∀ z, u = some z → H a = some (.frz z.1 (.lst z.2))) :
    R (fun p => H p ≠ none) H B H (start N (.ref a :: vs)) (.v a u :: (ds.map Sl.d ++ List.replicate (N.length - (ds.length + 1)) .no)) := by
  have hst := r_start (N := N) e (RpL.cons (Rp.non (B := B)) r)
  have sw : ∀ i, (startD N (PyData.none :: ds))[i + 1]? = (ds.map Sl.d ++ List.replicate (N.length - (ds.length + 1)) Sl.no)[i]? := fun i => by
    unfold startD
    simp
  refine ⟨e, Ex.refl H, fun p hp => hp, fun p hp => hp, ?_, fun i s es => ?_, fun i j si sj p ei ej oi oj => ?_⟩
  · unfold L2.start
    simp [r.length]
  · cases i with
    | zero =>
      cases es
      exact ⟨some (.ref a), by rw [start_get, if_pos (by simp)]; rfl, rfl, hu⟩
    | succ i =>
      have es' : (startD N (PyData.none :: ds))[i + 1]? = some s := by rw [sw]; exact es
      obtain ⟨o, e1, e2⟩ := hst.sl (i + 1) s es'
      refine ⟨o, ?_, e2⟩
      rw [start_get] at e1 ⊢
      simpa using e1
  · have no : ∀ (i : Nat) (s : Sl), (Sl.v a u :: (ds.map Sl.d ++ List.replicate (N.length - (ds.length + 1)) Sl.no))[i]? = some s → s.own = false := fun i s es => by
      cases i with
      | zero => cases es; rfl
      | succ i =>
        have es' : (startD N (PyData.none :: ds))[i + 1]? = some s := by rw [sw]; exact es
        rcases startD_in es' with ⟨d, _, rfl⟩ | ⟨_, _, rfl⟩ <;> rfl
    rw [no i si ei] at oi
    cases oi
def dCallS (K : PySem.W.Frag) (f : DFnS) (gi : Nat) (a : DA) : DA := fun ρ Q => ∃ sa u ns, ρ[gi]? = some (.v sa u) ∧ Script K ns sa u ∧ a ρ fun ds ρ1 => f ns ds fun d => Q d ρ1
instance (priority := high) semCallS (K : PySem.W.Frag) (f : DFnS) (gi : Nat) (E : XK) (Ta : TA) (a : DA) [i1 : SemA Ta a] : SemN (tCall (spS K f) [] E (tCons (tVarF gi) Ta)) (dCallS K f gi a) where
  run := by
    intro O F B H σ ρ Q Q' h q k
    obtain ⟨sa, u, ns, e, hs, q⟩ := q
    obtain ⟨o, e1, e2, e3⟩ := h.sl _ _ e
    subst e2
    refine ⟨.ref sa, e1, .inl ?_⟩
    refine i1.run h q fun vs H1 B1 ρ1 ds h1 g1 r1 q1 => ?_
    exact ⟨sa, u, ns, vs, B1, ds, _, by rw [List.append_nil], fun z hz => h1.ef _ _ (e3 z hz), hs, h1.eb, r1, q1, fun d p us H' B' hh bb bh ag hp nb e r qd =>
      k p us d H' B' ρ1 (h1.grow bb bh hh ag) (g1.trans ⟨bb, fun p hp => ag p (h1.od p hp)⟩) e r nb (h1.ef.free hp) (fun o => h1.od p o hp) (h1.free_new hp) qd⟩
section
variable {P : Program} {w : World} {K : PySem.W.Frag} {mg : Str → Option Value} {base : Heap}
theorem mkS {x qual : Str} {st : Stmt} {f : Addr} {fd : FuncData} {N ps : List Str} {k : Nat} (F : Fun K x qual st f fd) (S : FnScope N ps (defScope st)) {fn : DFnS} {T : TS} {t : DS} (hlen : ∀ ns ds Q, fn ns ds Q → ds.length + 1 = ps.length)
    (hd : ∀ (cdv : Value) (A : Around) (outer : List PySem.Env) (s : Shared) (H : Hp) (E : XK), A.guards = some [] → Room k (A.deeper (envOfC qual (defScope st) s.heap.objs.size f cdv)) → PSs (cxOf CX0 P w K mg base N qual (defScope st) f cdv A outer s H E).nox (defBody st) T)
    (hs : SemS T t) (hb : ∀ a u ns ds Q, Script K ns a u → fn ns ds Q → t { nx := fun _ => False, rt := fun d _ => False, rn := fun d _ => Q d } (.v a u :: (ds.map Sl.d ++ List.replicate (N.length - (ds.length + 1)) .no))) : FnG P w K mg base (k + 1) f fd ps (spS K fn) := by
  refine okG F S (fun vs H Q E h => ?_) (fun cdv A outer s H vs Q E hg0 hr h => ⟨T, hd cdv A outer s H E hg0 hr, ?_⟩)
  · obtain ⟨a, u, ns, ws, B, ds, Qd, rfl, _, _, _, r, h, _⟩ := h
    rw [← hlen ns ds Qd h, ← r.length]; rfl
  · obtain ⟨a, u, ns, ws, B, ds, Qd, rfl, hu, hsc, e, r, h, k⟩ := h
    refine hs.run (r_startS e r hu) (hb a u ns ds Qd hsc h) ⟨fun r g q => q.elim, fun r g q => q.elim, fun r g q => q.elim, fun r g rv q => q.elim, ?_⟩
    intro B' H' σ' ρ' p us ds' r1 g hp rx nb nf no fr q
    refine k _ _ _ _ _ r1.ef g.ex r1.eb g.ag ?_ nb hp rx q
    cases z : H p with
    | none => rfl
    | some o => exact absurd (by rw [z]; exact fun y => nomatch y) no
theorem mkL {x qual : Str} {st : Stmt} {f : Addr} {fd : FuncData} {N : List Str} {p0 : Str} {k : Nat} (F : Fun K x qual st f fd) (S : FnScope N [p0] (defScope st)) {fn : DFnL} {T : TS} {t : DS}
    (hd : ∀ (cdv : Value) (A : Around) (outer : List PySem.Env) (s : Shared) (H : Hp) (E : XK), A.guards = some [] → Room k (A.deeper (envOfC qual (defScope st) s.heap.objs.size f cdv)) → PSs (cxOf CX0 P w K mg base N qual (defScope st) f cdv A outer s H E).nox (defBody st) T)
    (hs : SemS T t) (hb : ∀ a u ns Q, Script K ns a u → fn ns Q → t { nx := fun _ => Q .none, rt := fun d _ => Q d } (.v a u :: List.replicate (N.length - 1) .no)) : FnG P w K mg base (k + 1) f fd [p0] (spL K fn) := by
  refine okG F S (fun vs H Q E h => ?_) (fun cdv A outer s H vs Q E hg0 hr h => ⟨T, hd cdv A outer s H E hg0 hr, ?_⟩)
  · obtain ⟨a, u, ns, Qd, rfl, _⟩ := h
    rfl
  · obtain ⟨a, u, ns, Qd, rfl, hu, hsc, h, k⟩ := h
    refine hs.run (r_startS (B := fun _ => none) (fun _ _ z => nomatch z) RpL.nil hu) (hb a u ns Qd hsc h) ⟨fun {B' _ _ _} r g q => k _ _ _ B' Rp.non q, fun r g q => q.elim, fun r g q => q.elim, fun r g rv q => k _ _ _ _ rv q, ?_⟩
    intro B' H' σ' ρ' p us ds' r1 g hp rx nb nf no fr q
    exact k _ _ _ (upd B' p (.lst us)) (.lst upd_same (rx.up (Ex.new nb))) q
end

/-- the generator: n draws are left -/
def Gen (n : Nat) (gs : List PyData) : Prop := ∃ a b c : Int, gs = [.int a, .int b, .int c] ∧ 0 ≤ a ∧ 0 ≤ b ∧ b < 2147483647 ∧ 0 ≤ c ∧ c + 1000 * (n : Int) ≤ 10 ^ 13
theorem Gen.le {n m : Nat} {gs : List PyData} (h : Gen n gs) (e : m ≤ n) : Gen m gs := by
  obtain ⟨a, b, c, rfl, h1, h2, h3, h4, h5⟩ := h
  exact ⟨a, b, c, rfl, h1, h2, h3, h4, by omega⟩
def fn_law_hash : DFn := fun ds Q => ∃ s i : Int, ds = [.int s, .int i] ∧ 0 ≤ i ∧ i ≤ 10 ^ 13 ∧ ∀ r : Int, 0 ≤ r → r < 2147483647 → Q (.int r)
def fn_law_generator : DFnS := fun ns ds Q => ∃ i : Int, ds = [.int i] ∧ 0 ≤ i ∧ i ≤ 100 ∧ ∀ gs, Gen 9000000000 gs → Q gs
def fn_law_random : DFnG := fun gs ds Q => ∃ (n : Nat) (b : Int), ds = [.int b] ∧ 0 < b ∧ b < 2 ^ 3000 ∧ Gen (n + 1) gs ∧ ∀ r gs', 0 ≤ r → r < b → Gen n gs' → Q (.int r) gs'
/-- what can be drawn from -/
def menu : PyData → List PyData
  | .list xs => xs
  | .tuple xs => xs
  | .str z => signs z
  | _ => []
def fn_law_pick : DFnG := fun gs ds Q => ∃ (n : Nat) (m : PyData), ds = [m] ∧ 0 < (menu m).length ∧ (menu m).length ≤ 1000000 ∧ Gen (n + 1) gs ∧ ∀ r gs', r ∈ menu m → Gen n gs' → Q r gs'
section
variable {i j : Int} {x y : Str} {Q : PyData → Prop}
theorem dAdd_i : dAdd (.int i) (.int j) Q = Q (.int (i + j)) := rfl
theorem dAdd_l {l m : List PyData} : dAdd (.list l) (.list m) Q = (l.length + m.length ≤ sizeLine ∧ Q (.list (l ++ m))) := rfl
theorem dAdd_s : dAdd (.str x) (.str y) Q = (x.length + y.length ≤ sizeLine ∧ Q (.str (x ++ y))) := rfl
theorem dMul_s : dMul (.str x) (.int j) Q = (MulOk x j ∧ Q (.str (Txt.mul x j))) := rfl
theorem lit_le (n : Nat) (h : n ≤ 16777216) : (n ≤ sizeLine) = True := by rw [sizeLine_eq]; simp [h]
theorem dSub_i : dSub (.int i) (.int j) Q = Q (.int (i - j)) := propext ⟨fun h => h.2, fun h => ⟨trivial, h⟩⟩
theorem dMul_i : dMul (.int i) (.int j) Q = (CMulA i j ∧ Q (.int (i * j))) := rfl
theorem dMod_i : dMod (.int i) (.int j) Q = (0 < j ∧ Q (.int (i % j))) := rfl
theorem dFdiv_i : dFdiv (.int i) (.int j) Q = (CDivG i j ∧ Q (.int (i.fdiv j))) := rfl
theorem CDivW.g (h : CDivW i j) : CDivG i j := ⟨by have : (0 : Int) < j := h.1; omega, h.2⟩
theorem fdiv_pos (h : 0 < j) : i.fdiv j = i / j := Int.fdiv_eq_ediv_of_nonneg i (by omega)
theorem dPowX_i : dPowX (.int i) (.int j) Q = (CPowX i j ∧ Q (.int (i ^ j.toNat))) := rfl
theorem dNeg_i : dNeg (.int i) Q = Q (.int (-i)) := rfl
theorem dInt1_i : dInt1 [.int i] Q = Q (.int i) := rfl
theorem dAbs_i : dAbs [.int i] Q = Q (.int (if i < 0 then -i else i)) := rfl
theorem dStrB_i : dStrB [.int i] Q = (i.natAbs < 10 ^ 4300 ∧ Q (.str (toString i))) := rfl
theorem dMax2_i : dMax2 [.int i, .int j] Q = Q (.int (if j > i then j else i)) := rfl
theorem dMin2_i : dMin2 [.int i, .int j] Q = Q (.int (if j < i then j else i)) := rfl
theorem dLt_i : dLt (.int i) (.int j) Q = Q (.bool (decide (i < j))) := rfl
theorem dLe_i : dLe (.int i) (.int j) Q = Q (.bool (decide (i ≤ j))) := rfl
theorem dGt_i : dGt (.int i) (.int j) Q = Q (.bool (decide (j < i))) := rfl
theorem dGe_i : dGe (.int i) (.int j) Q = Q (.bool (decide (j ≤ i))) := rfl
theorem eqv_ii (i j : Int) : PyData.eqv (.int i) (.int j) = decide (i = j) := by
  rw [Bool.eq_iff_iff]
  simp [PyData.eqv]
theorem dEq_i : dEq (.int i) (.int j) Q = Q (.bool (decide (i = j))) := by
  have e : dEq (.int i) (.int j) Q = (eqOk (.int i) (.int j) ∧ Q (.bool (PyData.eqv (.int i) (.int j)))) := rfl
  rw [e, eqv_ii]
  exact propext ⟨fun h => h.2, fun h => ⟨.inl ⟨shaped_int _, shaped_int _⟩, h⟩⟩
theorem dNe_i : dNe (.int i) (.int j) Q = Q (.bool (!decide (i = j))) := by
  have e : dNe (.int i) (.int j) Q = (eqOk (.int i) (.int j) ∧ Q (.bool (!PyData.eqv (.int i) (.int j)))) := rfl
  rw [e, eqv_ii]
  exact propext ⟨fun h => h.2, fun h => ⟨.inl ⟨shaped_int _, shaped_int _⟩, h⟩⟩
theorem dIx_l {l : List PyData} : dIx (.list l) (.int i) Q = ∃ d, atI l i = some d ∧ Q d := rfl
theorem dIx_t {l : List PyData} : dIx (.tuple l) (.int i) Q = ∃ d, atI l i = some d ∧ Q d := rfl
theorem dIx_s : dIx (.str x) (.int i) Q = (x.length ≤ sizeLine ∧ ∃ c, atI x.cps.toList i = some c ∧ Q (.str ⟨#[c]⟩)) := rfl
theorem dLen_l {l : List PyData} : dLen [.list l] Q = Q (.int l.length) := rfl
theorem dLen_t {l : List PyData} : dLen [.tuple l] Q = Q (.int l.length) := rfl
theorem dLen_s : dLen [.str x] Q = (x.length ≤ sizeLine ∧ Q (.int x.length)) := rfl
end
theorem whGo_s (c : DT) (t : DS) (D : DEnds) (n : Nat) (ρ : DEnv) : whGo c t D (n + 1) ρ = c ρ fun b ρ1 => if b = true then t { nx := whGo c t D n, ct := whGo c t D n, bk := D.nx, rt := D.rt, rn := D.rn } ρ1 else D.nx ρ1 := rfl
theorem cm1 {i j : Int} (h : -(2 ^ 64) < i ∧ i < 2 ^ 64) : CMulA i j := .inl (.inl h)
theorem cm2 {i j : Int} (h : -(2 ^ 64) < j ∧ j < 2 ^ 64) : CMulA i j := .inl (.inr h)
theorem em {a m : Int} (h : 0 < m) : 0 ≤ a % m ∧ a % m < m := ⟨Int.emod_nonneg _ (by omega), Int.emod_lt_of_pos _ h⟩
theorem nat_of_big {b : Int} (h0 : 0 < b) (h : b < 2 ^ 3000) : b.natAbs < 2 ^ 3000 := by
  have e : ((2 ^ 3000 : Nat) : Int) = 2 ^ 3000 := by push_cast; rfl
  have h2 : (b.natAbs : Int) < ((2 ^ 3000 : Nat) : Int) := by
    rw [e]
    rw [Int.natAbs_of_nonneg (by omega)]
    exact h
  exact Int.ofNat_lt.mp h2
theorem big_div {a b : Int} (h0 : 0 < b) (h : b < 2 ^ 3000) : CDivW a b := ⟨h0, Nat.lt_of_le_of_lt (Nat.le_of_lt_succ ((Nat.log2_lt (by omega)).mpr (Nat.lt_of_lt_of_le (nat_of_big h0 h) (Nat.pow_le_pow_right (by decide) (by decide : 3000 ≤ 3001))))) (by decide)⟩
theorem big_bits {b : Int} (h0 : 0 < b) (h : b < 2 ^ 3000) : Builtin.Int.intBits b ≤ 3000 := PySem.intBits_le_iff.mpr (nat_of_big h0 h)
theorem big_of {b : Int} (h : b ≤ 10 ^ 100) : b < 2 ^ 3000 := Int.lt_of_le_of_lt h (by decide +kernel)
end DL

namespace DL
open PySem PySem.Spec PyProof.Rows L2

abbrev KT := List (List Key × PyData)
def kvT (l : KT) : List (PyData × PyData) := l.map fun p => (.tuple (p.1.map kD), p.2)
def valG {κ α : Type} [DecidableEq κ] (l : List (κ × α)) (k : κ) : Option α := (l.find? fun kv => decide (kv.1 = k)).map (·.2)
def RpH (B : Hp) : List (List Key × V) → KT → Prop := Paired fun p q => p.1 = q.1 ∧ Rp B p.2 q.2
theorem RpK.toG {B : Hp} : ∀ {vs : List (Key × V)} {ds : List (PyData × PyData)}, RpK B vs ds → ∃ l, ds = kvD l ∧ RpG B vs l
  | _, _, .nil => ⟨[], rfl, .nil⟩
  | _, _, .cons (k := k) (d := d) a r => by
    obtain ⟨l, rfl, h⟩ := RpK.toG r
    exact ⟨(k, d) :: l, rfl, .cons ⟨rfl, a⟩ h⟩
theorem RpT.toH {B : Hp} : ∀ {vs : List (List Key × V)} {ds : List (PyData × PyData)}, RpT B vs ds → ∃ l, ds = kvT l ∧ RpH B vs l
  | _, _, .nil => ⟨[], rfl, .nil⟩
  | _, _, .cons (k := k) (d := d) a r => by
    obtain ⟨l, rfl, h⟩ := RpT.toH r
    exact ⟨(k, d) :: l, rfl, .cons ⟨rfl, a⟩ h⟩
theorem kD_inj {k k' : Key} (h : kD k = kD k') : k = k' := by
  cases k <;> cases k' <;> cases h <;> rfl
theorem kDs_inj : ∀ {k k' : List Key}, k.map kD = k'.map kD → k = k'
  | [], [], _ => rfl
  | [], _ :: _, h => by cases h
  | _ :: _, [], h => by cases h
  | a :: k, b :: k', h => by
    rw [List.map_cons, List.map_cons] at h
    injection h with h1 h2
    rw [kD_inj h1, kDs_inj h2]
theorem kvD_inj : ∀ {l l' : KD}, kvD l = kvD l' → l = l'
  | [], [], _ => rfl
  | [], _ :: _, h => by cases h
  | _ :: _, [], h => by cases h
  | (k, d) :: l, (k', d') :: l', h => by
    unfold kvD at h
    rw [List.map_cons, List.map_cons] at h
    injection h with h1 h2
    injection h1 with h3 h4
    cases kD_inj h3
    cases (show d = d' from h4)
    rw [kvD_inj h2]
theorem kvT_inj : ∀ {l l' : KT}, kvT l = kvT l' → l = l'
  | [], [], _ => rfl
  | [], _ :: _, h => by cases h
  | _ :: _, [], h => by cases h
  | (k, d) :: l, (k', d') :: l', h => by
    unfold kvT at h
    rw [List.map_cons, List.map_cons] at h
    injection h with h1 h2
    injection h1 with h3 h4
    injection h3 with h5
    cases kDs_inj h5
    cases (show d = d' from h4)
    rw [kvT_inj h2]
theorem kvD_kvT {l : KD} {l' : KT} (h : kvD l = kvT l') : l = [] ∧ l' = [] := by
  cases l with
  | nil =>
    cases l' with
    | nil => exact ⟨rfl, rfl⟩
    | cons p l' => cases h
  | cons p l =>
    cases l' with
    | nil => cases h
    | cons q l' =>
      obtain ⟨k, d⟩ := p
      unfold kvD kvT at h
      rw [List.map_cons, List.map_cons] at h
      injection h with h1 h2
      injection h1 with h3 h4
      cases k <;> cases h3
theorem paired_val {κ : Type} [DecidableEq κ] {B : Hp} (k : κ) : ∀ {vs : List (κ × V)} {l : List (κ × PyData)}, Paired (fun p q => p.1 = q.1 ∧ Rp B p.2 q.2) vs l →
    (valV vs k = none ∧ valG l k = none) ∨ ∃ v d, valV vs k = some v ∧ valG l k = some d ∧ Rp B v d
  | _, _, .nil => .inl ⟨rfl, rfl⟩
  | p :: vs, q :: l, .cons a b => by
    unfold valV valG
    rw [List.find?_cons, List.find?_cons, ← a.1]
    by_cases e : p.1 = k
    · simp only [e, decide_true]
      exact .inr ⟨p.2, q.2, rfl, rfl, a.2⟩
    · simp only [e, decide_false]
      exact paired_val k b
def dDG : D2 := fun x y Q => match x with
  | .dict kvs => (∃ (l : KD) (k : Key) (v : PyData), kvs = kvD l ∧ y = kD k ∧ valG l k = some v ∧ Q v) ∨ ∃ (l : KT) (k : List Key) (v : PyData), kvs = kvT l ∧ y = .tuple (k.map kD) ∧ valG l k = some v ∧ Q v
  | _ => False
def rDG : R2 := fun x y H Q => ∃ a v, x = .ref a ∧ DGet H a y (some v) ∧ Q v H
theorem pe_dgetD {X : Cx} {o i : Expr} {td ty : TE} {pos : Pos} (hu : X.A.units + 1 < cLine) (ho : PE X o td) (hi : PE X i ty) (hs : NoSl i := by exact fun _ _ => rfl) : PE X (.Subscript o i pos) (tOp rDG td ty) := pe_dget hu ho hi hs
theorem rp_tupK {B : Hp} {v : V} {k : List Key} (h : Rp B v (.tuple (k.map kD))) : ∃ b, v = .ref b ∧ B b = some (.tup (k.map kV)) := by
  have go : ∀ {vs : List V} {k : List Key}, RpL B vs (k.map kD) → vs = k.map kV := fun {vs k} => by
    induction k generalizing vs with
    | nil => intro r; cases r; rfl
    | cons a k ih =>
      intro r
      cases r with
      | cons h1 h2 => rw [rp_kD h1, ih h2]; rfl
  cases h with
  | tup e r => rw [go r] at e; exact ⟨_, rfl, e⟩
theorem dgK {B H : Hp} {a : Addr} {vs : List (Key × V)} {kvs : List (PyData × PyData)} {y : V} {dy : PyData} {Q : PyData → Prop} {Q' : VK} (hp : Rd H a (.dK vs)) (r : RpK B vs kvs) (ry : Rp B y dy) (q : dDG (.dict kvs) dy Q) (k : ∀ v d, Rp B v d → Q d → Q' v H) : rDG (.ref a) y H Q' := by
  obtain ⟨l1, e1, rg⟩ := r.toG
  rcases q with ⟨l, kk, v, e, rfl, ev, q⟩ | ⟨l, kk, v, e, rfl, ev, q⟩
  · have := kvD_inj (e1.symm.trans e)
    subst this
    rcases paired_val kk rg with ⟨_, z⟩ | ⟨v', d, z1, z2, rv⟩
    · rw [ev] at z; cases z
    · rw [ev] at z2
      cases z2
      rw [rp_kD ry]
      exact ⟨a, v', rfl, .inl ⟨vs, kk, hp, rfl, z1.symm⟩, k _ _ rv q⟩
  · obtain ⟨_, rfl⟩ := kvD_kvT (e1.symm.trans e)
    cases ev
instance op2DG : Op2 rDG dDG where
  run := by
    intro O F B H σ ρ x y dx dy Q Q' h rx ry q k
    cases rx with
    | dk e r => exact dgK (.inr ⟨_, h.eb _ _ e⟩) r ry q fun v d rv qd => k _ _ _ _ h .refl rv qd
    | dt e r =>
      obtain ⟨l1, e1, rg⟩ := r.toH
      rcases q with ⟨l, kk, v, e2, rfl, ev, q⟩ | ⟨l, kk, v, e2, rfl, ev, q⟩
      · obtain ⟨rfl, _⟩ := kvD_kvT (e2.symm.trans e1)
        cases ev
      · have := kvT_inj (e1.symm.trans e2)
        subst this
        rcases paired_val kk rg with ⟨_, z⟩ | ⟨v', d, z1, z2, rv⟩
        · rw [ev] at z; cases z
        · rw [ev] at z2
          cases z2
          obtain ⟨b, rfl, eb⟩ := rp_tupK ry
          exact ⟨_, v', rfl, .inr ⟨_, kk, b, .inr ⟨_, h.eb _ _ e⟩, rfl, h.eb _ _ eb, z1.symm⟩, k _ _ _ _ h .refl rv q⟩
    | _ => exact q.elim
/-- an item of a dict's name: what is its own stays so -/
def dDGV (i : Nat) (b : DE) : DE := fun ρ Q => ∃ x, (ρ[i]? = some (.d x) ∨ ∃ kvs, ρ[i]? = some (.k kvs)) ∧ b ρ fun y ρ1 => match ρ1[i]? with
  | some (.d x) => dDG x y fun z => Q z ρ1
  | some (.k kvs) => dDG (.dict kvs) y fun z => Q z ρ1
  | _ => False
instance (priority := high) semDGV (i : Nat) (Tb : TE) (b : DE) [i2 : SemE Tb b] : SemE (tOp rDG (tVarF i) Tb) (dDGV i b) where
  run := by
    intro O F B H σ ρ Q Q' h q k
    obtain ⟨x0, e0, q⟩ := q
    have : ∃ v, σ[i]? = some (some v) := by
      rcases e0 with e | ⟨kvs, e⟩
      · obtain ⟨o, e2, v, rfl, _⟩ := h.sl _ _ e
        exact ⟨_, e2⟩
      · obtain ⟨o, e2, p, vs, rfl, _⟩ := h.sl _ _ e
        exact ⟨_, e2⟩
    obtain ⟨v, ev⟩ := this
    refine ⟨v, ev, .inl ?_⟩
    refine i2.run h q fun y H1 B1 ρ1 dy h1 g1 ry q1 => ?_
    split at q1
    · rename_i x e
      obtain ⟨o, e1, v', rfl, r⟩ := h1.sl _ _ e
      rw [ev] at e1
      cases e1
      exact op2DG.run h1 r ry q1 fun v' H' B' d h' g' r' q' => k v' H' B' ρ1 d h' (g1.trans g') r' q'
    · rename_i x e
      obtain ⟨o, e1, p, vs, rfl, hp, r, _⟩ := h1.sl _ _ e
      rw [ev] at e1
      cases e1
      exact dgK (.inl hp) r ry q1 fun v d rv q => k v H1 B1 ρ1 d h1 g1 rv q
    · exact q1.elim
end DL

namespace DL
open PySem PySem.Spec PyProof.Rows L2
theorem dRet_ap (a : DE) : ∀ D ρ, dRet a D ρ = (a ρ D.rt) := fun _ _ => rfl
theorem dRetL_ap (a : DA) : ∀ D ρ, dRetL a D ρ = (a ρ D.rn) := fun _ _ => rfl
theorem dRetV_ap (i : Nat) : ∀ D ρ, dRetV i D ρ = (match ρ[i]? with
  | some (.d x) => D.rt x ρ
  | some (.l xs) => D.rn xs (ρ.set i .no)
  | some (.k xs) => D.rt (.dict xs) (ρ.set i (.d (.dict xs)))
  | _ => False) := fun _ _ => rfl
theorem dRetN_ap : ∀ D ρ, dRetN  D ρ = (D.rt .none ρ) := fun _ _ => rfl
theorem dAndV_ap (a b : DE) : ∀ ρ Q, dAndV a b ρ Q = (a ρ fun x ρ1 => match x with
  | .bool true => b ρ1 Q
  | .bool false => Q (.bool false) ρ1
  | _ => False) := fun _ _ => rfl
theorem dOrV_ap (a b : DE) : ∀ ρ Q, dOrV a b ρ Q = (a ρ fun x ρ1 => match x with
  | .bool true => Q (.bool true) ρ1
  | .bool false => b ρ1 Q
  | _ => False) := fun _ _ => rfl
theorem dNotV_ap (a : DE) : ∀ ρ Q, dNotV a ρ Q = (a ρ fun x ρ1 => match x with
  | .bool b => Q (.bool (!b)) ρ1
  | _ => False) := fun _ _ => rfl
theorem dAnd_ap (a b : DT) : ∀ ρ Q, dAnd a b ρ Q = (a ρ fun x ρ1 => if x = true then b ρ1 Q else Q false ρ1) := fun _ _ => rfl
theorem dOr_ap (a b : DT) : ∀ ρ Q, dOr a b ρ Q = (a ρ fun x ρ1 => if x = true then Q true ρ1 else b ρ1 Q) := fun _ _ => rfl
theorem dNot_ap (a : DT) : ∀ ρ Q, dNot a ρ Q = (a ρ fun x ρ1 => Q (!x) ρ1) := fun _ _ => rfl
theorem dTest_ap (a : DE) : ∀ ρ Q, dTest a ρ Q = (a ρ fun x ρ1 => match x with
  | .bool b => Q b ρ1
  | _ => False) := fun _ _ => rfl
theorem dIsi_ap (ty : Ty) (a : DE) : ∀ ρ Q, dIsi ty a ρ Q = (a ρ fun x ρ1 => Q (.bool (isTy ty x)) ρ1) := fun _ _ => rfl
theorem dOp_ap (f : D2) (a b : DE) : ∀ ρ Q, dOp f a b ρ Q = (a ρ fun x ρ1 => b ρ1 fun y ρ2 => f x y fun z => Q z ρ2) := fun _ _ => rfl
theorem dUn_ap (f : D1) (a : DE) : ∀ ρ Q, dUn f a ρ Q = (a ρ fun x ρ1 => f x fun z => Q z ρ1) := fun _ _ => rfl
theorem dN_ap (a : DA) : ∀ ρ Q, dN a ρ Q = (a ρ fun xs ρ1 => Q (.list xs) ρ1) := fun _ _ => rfl
theorem dLc_ap (a : DA) (g : DG) (tt : DT) (te : DE) (vs : List Nat) : ∀ ρ Q, dLc a g tt te vs ρ Q = (a ρ fun ds ρ1 => lcGo g tt te vs ds [] ρ1 Q) := fun _ _ => rfl
theorem dAny_ap (a : DE) : ∀ ρ Q, dAny a ρ Q = (a ρ fun x ρ1 => match dItems x with
  | some ds => Q ds ρ1
  | none => False) := fun _ _ => rfl
theorem dVar_ap (i : Nat) : ∀ ρ Q, dVar i ρ Q = (match ρ[i]? with
  | some (.d x) => Q x ρ
  | some (.l xs) => Q (.list xs) (ρ.set i (.d (.list xs)))
  | some (.k xs) => Q (.dict xs) (ρ.set i (.d (.dict xs)))
  | _ => False) := fun _ _ => rfl
theorem dC_ap (x : PyData) : ∀ ρ Q, dC x ρ Q = (Q x ρ) := fun _ _ => rfl
theorem dLst_ap (a : DA) : ∀ ρ Q, dLst a ρ Q = (a ρ fun xs ρ1 => xs.length ≤ sizeLine ∧ Q xs ρ1) := fun _ _ => rfl
theorem dNil_ap : ∀ ρ Q, dNil  ρ Q = (Q [] ρ) := fun _ _ => rfl
theorem dCons_ap (a : DE) (r : DA) : ∀ ρ Q, dCons a r ρ Q = (a ρ fun x ρ1 => r ρ1 fun xs ρ2 => Q (x :: xs) ρ2) := fun _ _ => rfl
theorem dTup_ap (a : DA) : ∀ ρ Q, dTup a ρ Q = (a ρ fun xs ρ1 => xs.length ≤ sizeLine ∧ Q (.tuple xs) ρ1) := fun _ _ => rfl
theorem dIfS_ap (c : DT) (t u : DS) : ∀ D ρ, dIfS c t u D ρ = (c ρ fun x ρ1 => if x = true then t D ρ1 else u D ρ1) := fun _ _ => rfl
theorem dSeq_ap (t u : DS) : ∀ D ρ, dSeq t u D ρ = (t { D with nx := u D } ρ) := fun _ _ => rfl
theorem dAsg_ap (a : DE) (g : DG) : ∀ D ρ, dAsg a g D ρ = (a ρ fun x ρ1 => g x ρ1 D.nx) := fun _ _ => rfl
theorem dAsgN_ap (a : DA) (i : Nat) : ∀ D ρ, dAsgN a i D ρ = (a ρ fun xs ρ1 => D.nx (ρ1.set i (.l xs))) := fun _ _ => rfl
theorem dNext_ap : ∀ D ρ, dNext  D ρ = (D.nx ρ) := fun _ _ => rfl
theorem dCall_ap (f : DFn) (a : DA) : ∀ ρ Q, dCall f a ρ Q = (a ρ fun ds ρ1 => f ds fun d => Q d ρ1) := fun _ _ => rfl
theorem dCallN_ap (f : DFnN) (a : DA) : ∀ ρ Q, dCallN f a ρ Q = (a ρ fun ds ρ1 => f ds fun d => Q d ρ1) := fun _ _ => rfl
theorem dCallC_ap (K : PySem.W.Frag) (gi : Nat) (a : DA) : ∀ ρ Q, dCallC K gi a ρ Q = (∃ sa u ns, ρ[gi]? = some (.v sa u) ∧ Script K ns sa u ∧ a ρ fun ds ρ1 => ∃ i, ds = [.int i] ∧ 0 ≤ i ∧ Q (.int (cellF ns i)) ρ1) := fun _ _ => rfl
theorem dCallS_ap (K : PySem.W.Frag) (f : DFnS) (gi : Nat) (a : DA) : ∀ ρ Q, dCallS K f gi a ρ Q = (∃ sa u ns, ρ[gi]? = some (.v sa u) ∧ Script K ns sa u ∧ a ρ fun ds ρ1 => f ns ds fun d => Q d ρ1) := fun _ _ => rfl
theorem dCallG_ap (f : DFnG) (gi : Nat) (a : DA) : ∀ ρ Q, dCallG f gi a ρ Q = (ownL ρ[gi]? = true ∧ a ρ fun ds ρ1 => match ρ1[gi]? with
  | some (.l gs) => f gs ds fun d gs' => Q d (ρ1.set gi (.l gs'))
  | some (.g gs) => f gs ds fun d gs' => Q d (ρ1.set gi (.g gs'))
  | _ => False) := fun _ _ => rfl
theorem dCallK_ap (f : DFn) (ix : List Nat) (n : Nat) (a : DA) : ∀ ρ Q, dCallK f ix n a ρ Q = (a ρ fun ds ρ1 => ds.length = n ∧ f (pick .none ix ds) fun d => Q d ρ1) := fun _ _ => rfl
theorem dCallKN_ap (f : DFnN) (ix : List Nat) (n : Nat) (a : DA) : ∀ ρ Q, dCallKN f ix n a ρ Q = (a ρ fun ds ρ1 => ds.length = n ∧ f (pick .none ix ds) fun d => Q d ρ1) := fun _ _ => rfl
theorem dCB_ap (f : DL1) (a : DA) : ∀ ρ Q, dCB f a ρ Q = (a ρ fun ds ρ1 => f ds fun d => Q d ρ1) := fun _ _ => rfl
theorem dCBN_ap (f : DLN) (a : DA) : ∀ ρ Q, dCBN f a ρ Q = (a ρ fun ds ρ1 => f ds fun d => Q d ρ1) := fun _ _ => rfl
theorem dChain_ap (f g : D2) (a b c : DE) : ∀ ρ Q, dChain f g a b c ρ Q = (a ρ fun x ρ1 => b ρ1 fun y ρ2 => f x y fun z => match z with
  | .bool true => c ρ2 fun w ρ3 => g y w fun r => Q r ρ3
  | .bool false => Q (.bool false) ρ2
  | _ => False) := fun _ _ => rfl
theorem dIf_ap (c : DT) (a b : DE) : ∀ ρ Q, dIf c a b ρ Q = (c ρ fun x ρ1 => if x = true then a ρ1 Q else b ρ1 Q) := fun _ _ => rfl
theorem dIxV_ap (i : Nat) (b : DE) : ∀ ρ Q, dIxV i b ρ Q = (hasV ρ[i]? = true ∧ b ρ fun y ρ1 => match ρ1[i]? with
  | some (.d x) => dIx x y fun z => Q z ρ1
  | some (.l xs) => dIx (.list xs) y fun z => Q z ρ1
  | some (.g xs) => dIx (.list xs) y fun z => Q z ρ1
  | _ => False) := fun _ _ => rfl
theorem dLenV_ap (i : Nat) : ∀ ρ Q, dLenV i ρ Q = (match ρ[i]? with
  | some (.d x) => dLen [x] fun d => Q d ρ
  | some (.l xs) => Q (.int xs.length) ρ
  | some (.g xs) => Q (.int xs.length) ρ
  | some (.k xs) => Q (.int xs.length) ρ
  | _ => False) := fun _ _ => rfl
theorem dFor_ap (a : DA) (g : DG) (t : DS) : ∀ D ρ, dFor a g t D ρ = (a ρ fun ds ρ1 => forGo g t D ds ρ1) := fun _ _ => rfl
theorem dSetI_ap (i : Nat) (a b : DE) : ∀ D ρ, dSetI i a b D ρ = (a ρ fun x ρ1 => ownL ρ1[i]? = true ∧ b ρ1 fun y ρ2 => match y, ρ2[i]? with
  | .int n, some (.l xs) => ∃ j, ixN xs.length n = some j ∧ D.nx (ρ2.set i (.l (xs.set j x)))
  | .int n, some (.g xs) => ∃ j, ixN xs.length n = some j ∧ D.nx (ρ2.set i (.g (xs.set j x)))
  | _, _ => False) := fun _ _ => rfl
theorem dBits_ap (a : DE) : ∀ ρ Q, dBits a ρ Q = (a ρ fun x ρ1 => match x with
  | .int i => Q (.int (Builtin.Int.intBits i : Nat)) ρ1
  | _ => False) := fun _ _ => rfl
theorem dRng1_ap (a : DA) : ∀ ρ Q, dRng1 a ρ Q = (a ρ fun xs ρ1 => match xs with
  | [.int j] => (-(2 ^ 62) ≤ j ∧ j < 2 ^ 62) ∧ Q (rng 0 j) ρ1
  | _ => False) := fun _ _ => rfl
theorem dRng2_ap (a : DA) : ∀ ρ Q, dRng2 a ρ Q = (a ρ fun xs ρ1 => match xs with
  | [.int i, .int j] => (-(2 ^ 62) ≤ i ∧ i < 2 ^ 62 ∧ -(2 ^ 62) ≤ j ∧ j < 2 ^ 62) ∧ Q (rng i j) ρ1
  | _ => False) := fun _ _ => rfl
theorem dApp_ap (i : Nat) (a : DE) : ∀ D ρ, dApp i a D ρ = (ownL ρ[i]? = true ∧ a ρ fun y ρ1 => match ρ1[i]? with
  | some (.l xs) => xs.length < sizeLine ∧ D.nx (ρ1.set i (.l (xs ++ [y])))
  | some (.g xs) => xs.length < sizeLine ∧ D.nx (ρ1.set i (.g (xs ++ [y])))
  | _ => False) := fun _ _ => rfl
theorem dInV_ap (neg : Bool) (a : DE) (i : Nat) : ∀ ρ Q, dInV neg a i ρ Q = (a ρ fun x ρ1 => match ρ1[i]? with
  | some (.d y) => dIn neg x y fun z => Q z ρ1
  | some (.l xs) => dIn neg x (.list xs) fun z => Q z ρ1
  | _ => False) := fun _ _ => rfl
theorem dAug_ap (f : Int → Int → Int) (i : Nat) (a : DE) : ∀ D ρ, dAug f i a D ρ = (match ρ[i]? with
  | some (.d (.int x)) => a ρ fun y ρ1 => match y with
    | .int b => D.nx (ρ1.set i (.d (.int (f x b))))
    | _ => False
  | _ => False) := fun _ _ => rfl
theorem dPar_ap (i j : Nat) (a : DA) : ∀ D ρ, dPar i j a D ρ = (a ρ fun xs ρ1 => match xs with
  | [x, y] => D.nx ((ρ1.set i (.d x)).set j (.d y))
  | _ => False) := fun _ _ => rfl
theorem dPar3_ap (i j l : Nat) (a : DA) : ∀ D ρ, dPar3 i j l a D ρ = (a ρ fun xs ρ1 => match xs with
  | [x, y, z] => D.nx (((ρ1.set i (.d x)).set j (.d y)).set l (.d z))
  | _ => False) := fun _ _ => rfl
theorem dDrop_ap (a : DE) : ∀ D ρ, dDrop a D ρ = (a ρ fun _ ρ1 => D.nx ρ1) := fun _ _ => rfl
theorem dBreak_ap : ∀ D ρ, dBreak  D ρ = (D.bk ρ) := fun _ _ => rfl
theorem dCont_ap : ∀ D ρ, dCont  D ρ = (D.ct ρ) := fun _ _ => rfl
theorem dEnum_ap (a : DA) : ∀ ρ Q, dEnum a ρ Q = (a ρ fun xs ρ1 => match xs with
  | [.list ds] => Q (enumD ds) ρ1
  | _ => False) := fun _ _ => rfl
theorem dZip_ap (a : DA) : ∀ ρ Q, dZip a ρ Q = (a ρ fun xs ρ1 => match xs with
  | [.list ds, .list es] => Q (zipD ds es) ρ1
  | [.tuple ds, .tuple es] => Q (zipD ds es) ρ1
  | _ => False) := fun _ _ => rfl
theorem dSl_ap (a : DE) (lo hi : DO) : ∀ ρ Q, dSl a lo hi ρ Q = (a ρ fun x ρ1 => lo ρ1 fun l ρ2 => hi ρ2 fun u ρ3 => match x with
  | .list ds => Q (.list (cutD ds l u)) ρ3
  | .tuple ds => Q (.tuple (cutD ds l u)) ρ3
  | .str z => z.length ≤ sizeLine ∧ Q (.str (cutS z l u)) ρ3
  | _ => False) := fun _ _ => rfl
theorem dNoPart_ap : ∀ ρ Q, dNoPart  ρ Q = (Q none ρ) := fun _ _ => rfl
theorem dPart_ap (a : DE) : ∀ ρ Q, dPart a ρ Q = (a ρ fun x ρ1 => match x with
  | .int i => Q (some i) ρ1
  | _ => False) := fun _ _ => rfl
theorem dRev_ap (a : DE) : ∀ ρ Q, dRev a ρ Q = (a ρ fun x ρ1 => match x with
  | .list ds => Q ds.reverse ρ1
  | _ => False) := fun _ _ => rfl
theorem dDictP_ap (a : DA) : ∀ ρ Q, dDictP a ρ Q = (a ρ fun xs ρ1 => ∃ l : KD, xs = [.list (pairD l)] ∧ Q (mergeG [] l) ρ1) := fun _ _ => rfl
theorem dDGV_ap (i : Nat) (b : DE) : ∀ ρ Q, dDGV i b ρ Q = (∃ x, (ρ[i]? = some (.d x) ∨ ∃ kvs, ρ[i]? = some (.k kvs)) ∧ b ρ fun y ρ1 => match ρ1[i]? with
  | some (.d x) => dDG x y fun z => Q z ρ1
  | some (.k kvs) => dDG (.dict kvs) y fun z => Q z ρ1
  | _ => False) := fun _ _ => rfl
theorem dYes_ap : ∀ ρ Q, dYes  ρ Q = (Q true ρ) := fun _ _ => rfl
theorem dStrOf_ap (a : DE) (Q : Str → DEnv → Prop) : ∀ ρ, dStrOf a Q ρ = (a ρ fun x ρ1 => match x with
  | .str z => Q z ρ1
  | _ => False) := fun _ => rfl
theorem gSet_ap (i : Nat) : ∀ x ρ Q, gSet i x ρ Q = Q (ρ.set i (.d x)) := fun _ _ _ => rfl
theorem dK_ap (a : DEnv → (KD → DEnv → Prop) → Prop) : ∀ ρ Q, dK a ρ Q = a ρ fun l ρ1 => Q (.dict (kvD l)) ρ1 := fun _ _ => rfl
theorem dJoinS_ap (a b : DE) : ∀ ρ Q, dJoinS a b ρ Q = dStrOf a (fun z ρ1 => b ρ1 fun y ρ2 => ∃ ys : List Str, (y = .list (ys.map .str) ∨ y = .tuple (ys.map .str)) ∧ (ys.map (·.length)).sum + ys.length * z.length ≤ 16777216 ∧ Q (.str (Txt.join z ys)) ρ2) ρ := fun _ _ => rfl
section
variable {b c : Bool} {i : Int} {x : Str} {l : List PyData} {kv : List (PyData × PyData)} {d : PyData} {Q : PyData → Prop}
theorem ty_int_none : isTy .int .none = false := rfl
theorem ty_int_bool : isTy .int (.bool b) = true := rfl
theorem ty_int_int : isTy .int (.int i) = true := rfl
theorem ty_int_str : isTy .int (.str x) = false := rfl
theorem ty_int_list : isTy .int (.list l) = false := rfl
theorem ty_int_tuple : isTy .int (.tuple l) = false := rfl
theorem ty_int_dict : isTy .int (.dict kv) = false := rfl
theorem ty_bool_none : isTy .bool .none = false := rfl
theorem ty_bool_bool : isTy .bool (.bool b) = true := rfl
theorem ty_bool_int : isTy .bool (.int i) = false := rfl
theorem ty_bool_str : isTy .bool (.str x) = false := rfl
theorem ty_bool_list : isTy .bool (.list l) = false := rfl
theorem ty_bool_tuple : isTy .bool (.tuple l) = false := rfl
theorem ty_bool_dict : isTy .bool (.dict kv) = false := rfl
theorem ty_str_none : isTy .str .none = false := rfl
theorem ty_str_bool : isTy .str (.bool b) = false := rfl
theorem ty_str_int : isTy .str (.int i) = false := rfl
theorem ty_str_str : isTy .str (.str x) = true := rfl
theorem ty_str_list : isTy .str (.list l) = false := rfl
theorem ty_str_tuple : isTy .str (.tuple l) = false := rfl
theorem ty_str_dict : isTy .str (.dict kv) = false := rfl
theorem ty_list_none : isTy .list .none = false := rfl
theorem ty_list_bool : isTy .list (.bool b) = false := rfl
theorem ty_list_int : isTy .list (.int i) = false := rfl
theorem ty_list_str : isTy .list (.str x) = false := rfl
theorem ty_list_list : isTy .list (.list l) = true := rfl
theorem ty_list_tuple : isTy .list (.tuple l) = false := rfl
theorem ty_list_dict : isTy .list (.dict kv) = false := rfl
theorem ty_tuple_none : isTy .tuple .none = false := rfl
theorem ty_tuple_bool : isTy .tuple (.bool b) = false := rfl
theorem ty_tuple_int : isTy .tuple (.int i) = false := rfl
theorem ty_tuple_str : isTy .tuple (.str x) = false := rfl
theorem ty_tuple_list : isTy .tuple (.list l) = false := rfl
theorem ty_tuple_tuple : isTy .tuple (.tuple l) = true := rfl
theorem ty_tuple_dict : isTy .tuple (.dict kv) = false := rfl
theorem ty_dict_none : isTy .dict .none = false := rfl
theorem ty_dict_bool : isTy .dict (.bool b) = false := rfl
theorem ty_dict_int : isTy .dict (.int i) = false := rfl
theorem ty_dict_str : isTy .dict (.str x) = false := rfl
theorem ty_dict_list : isTy .dict (.list l) = false := rfl
theorem ty_dict_tuple : isTy .dict (.tuple l) = false := rfl
theorem ty_dict_dict : isTy .dict (.dict kv) = true := rfl
def isNone : PyData → Bool
  | .none => true
  | _ => false
def isB (b : Bool) : PyData → Bool
  | .bool a => decide (a = b)
  | _ => false
theorem dIs_n : dIs d .none Q = Q (.bool (isNone d)) := by cases d <;> rfl
theorem dIs_b : dIs d (.bool c) Q = Q (.bool (isB c d)) := by cases d <;> rfl
theorem non_none : isNone .none = true := rfl
theorem isB_none : isB c .none = false := rfl
theorem non_bool : isNone (.bool b) = false := rfl
theorem isB_bool : isB c (.bool b) = decide (b = c) := rfl
theorem non_int : isNone (.int i) = false := rfl
theorem isB_int : isB c (.int i) = false := rfl
theorem non_str : isNone (.str x) = false := rfl
theorem isB_str : isB c (.str x) = false := rfl
theorem non_list : isNone (.list l) = false := rfl
theorem isB_list : isB c (.list l) = false := rfl
theorem non_tuple : isNone (.tuple l) = false := rfl
theorem isB_tuple : isB c (.tuple l) = false := rfl
theorem non_dict : isNone (.dict kv) = false := rfl
theorem isB_dict : isB c (.dict kv) = false := rfl
theorem it_list : dItems (.list l) = some l := rfl
theorem it_tuple : dItems (.tuple l) = some l := rfl
theorem it_str : dItems (.str x) = some (DL.signs x) := rfl
theorem it_dict : dItems (.dict kv) = some (kv.map (·.1)) := rfl
end
def cop : Nat → PyData → Prop
  | 0, _ => False
  | n + 1, .list xs => xs.length ≤ 1000000 ∧ ∀ x ∈ xs, cop n x
  | n + 1, .tuple xs => xs.length ≤ 1000000 ∧ ∀ x ∈ xs, cop n x
  | n + 1, .dict kvs => ∃ l : KD, kvs = kvD l ∧ (l.map (·.1)).Nodup ∧ l.length ≤ 1000000 ∧ ∀ p ∈ l, cop n p.2
  | _ + 1, _ => True
def fn_law_copied (n : Nat) : DFn := fun ds Q => ∃ d, ds = [d] ∧ cop n d ∧ Q d
def exa : Nat → PyData → Prop
  | 0, _ => False
  | n + 1, .list xs => xs.length ≤ 1000000 ∧ ∀ x ∈ xs, exa n x
  | n + 1, .tuple xs => xs.length ≤ 1000000 ∧ ∀ x ∈ xs, exa n x
  | _ + 1, .dict _ => False
  | _ + 1, _ => True
def fn_law_exact (n : Nat) : DFn := fun ds Q => ∃ d, ds = [d, d] ∧ exa n d ∧ Q (.bool true)
def fn_law_unlike : DFn := fun ds Q => ∃ xs, ds = [.list xs] ∧ xs.length < 64 ∧ ((∃ ns : List Int, xs = ns.map .int) ∨ ∃ ns : List Str, xs = ns.map .str ∧ ∀ s ∈ ns, PyData.strOk s = true) ∧ ∀ ys : List PyData, (∀ y ∈ ys, y ∈ xs) → ys.length ≤ xs.length → Q (.list ys)
theorem len_weight : ∀ xs : List PyData, xs.length ≤ PyData.weightAll xs
  | [] => Nat.zero_le _
  | x :: xs => by
    have := len_weight xs
    simp only [PyData.weightAll, List.length_cons]
    omega
theorem mem_weight {x : PyData} : ∀ {xs : List PyData}, x ∈ xs → x.weight ≤ PyData.weightAll xs
  | y :: xs, h => by
    simp only [PyData.weightAll]
    rcases List.mem_cons.mp h with rfl | h
    · omega
    · have := mem_weight h
      omega
theorem mem_depth {x : PyData} : ∀ {xs : List PyData}, x ∈ xs → x.depth ≤ PyData.depthAll xs
  | y :: xs, h => by
    simp only [PyData.depthAll]
    rcases List.mem_cons.mp h with rfl | h
    · omega
    · have := mem_depth h
      omega
theorem mem_lay {x : PyData} : ∀ {xs : List PyData}, PyData.canLayAll0 xs = true → x ∈ xs → x.canLay0 = true
  | y :: xs, hc, h => by
    have hc' : y.canLay0 = true ∧ PyData.canLayAll0 xs = true := by simpa [PyData.canLayAll0] using hc
    rcases List.mem_cons.mp h with rfl | h
    · exact hc'.1
    · exact mem_lay hc'.2 h
theorem cop_lay : ∀ (n : Nat) (d : PyData), d.canLay0 = true → d.depth < n → d.weight ≤ 1000000 → cop n d
  | 0, _, _, h, _ => absurd h (Nat.not_lt_zero _)
  | n + 1, .list xs, hc, hd, hw => by
    have hc' : PyData.canLayAll0 xs = true := by simpa [PyData.canLay0] using hc
    simp only [PyData.depth] at hd
    simp only [PyData.weight] at hw
    refine ⟨Nat.le_trans (len_weight xs) hw, fun x hx => cop_lay n x (mem_lay hc' hx) ?_ (Nat.le_trans (mem_weight hx) hw)⟩
    have := mem_depth hx
    omega
  | n + 1, .tuple xs, hc, hd, hw => by
    have hc' : PyData.canLayAll0 xs = true := by simpa [PyData.canLay0] using hc
    simp only [PyData.depth] at hd
    simp only [PyData.weight] at hw
    refine ⟨Nat.le_trans (len_weight xs) hw, fun x hx => cop_lay n x (mem_lay hc' hx) ?_ (Nat.le_trans (mem_weight hx) hw)⟩
    have := mem_depth hx
    omega
  | n + 1, .dict kvs, hc, _, _ => by simp [PyData.canLay0] at hc
  | n + 1, .none, _, _, _ => trivial
  | n + 1, .bool _, _, _, _ => trivial
  | n + 1, .int _, _, _, _ => trivial
  | n + 1, .str _, _, _, _ => trivial
theorem valG_mid {κ α : Type} [DecidableEq κ] {v : α} {k : κ} {l2 : List (κ × α)} : ∀ {l1 : List (κ × α)}, (∀ p ∈ l1, p.1 ≠ k) → valG (l1 ++ (k, v) :: l2) k = some v
  | [], _ => by simp [valG]
  | p :: l1, h => by
    have h1 := h p List.mem_cons_self
    have := valG_mid (v := v) (k := k) (l2 := l2) (l1 := l1) fun q hq => h q (List.mem_cons_of_mem _ hq)
    unfold valG at this ⊢
    rw [List.cons_append, List.find?_cons]
    simp only [h1, decide_false]
    exact this
theorem putG_new {α : Type} {l : List (Key × α)} {k : Key} {v : α} (h : ∀ p ∈ l, p.1 ≠ k) : putG l k v = l ++ [(k, v)] := by
  unfold putG
  rw [if_neg]
  intro z
  obtain ⟨p, hp, e⟩ := List.any_eq_true.mp z
  exact h p hp (of_decide_eq_true e)
theorem mergeG_new {α : Type} : ∀ {l acc : List (Key × α)}, ((acc ++ l).map (·.1)).Nodup → mergeG acc l = acc ++ l
  | [], acc, _ => by simp [mergeG]
  | p :: l, acc, h => by
    have h1 : ∀ q ∈ acc, q.1 ≠ p.1 := fun q hq e => by
      rw [List.map_append, List.nodup_append] at h
      exact h.2.2 q.1 (List.mem_map.mpr ⟨q, hq, rfl⟩) p.1 (by simp) e
    show mergeG (putG acc p.1 p.2) l = _
    rw [putG_new h1, mergeG_new]
    · simp
    · simpa using h
theorem not_in_trues {n : Nat} : inD (.bool false) (List.replicate n (.bool true)) = false := by
  unfold inD
  rw [List.any_eq_false]
  intro x hx
  rw [(List.mem_replicate.mp hx).2]
  simp [PyData.eqv]
theorem shaped_bools {n : Nat} (b : Bool) : SeqAt.shaped (.list (List.replicate n (.bool b))) = true := shaped_flats fun d hd => by
  rw [(List.mem_replicate.mp hd).2]
  rfl
/-- zip of a list with itself, two names bound -/
theorem zip_self : ∀ xs : List PyData, zipD xs xs = xs.map fun x => .tuple [x, x]
  | [] => rfl
  | x :: xs => by rw [zipD, zip_self xs]; rfl
/-- a comprehension over pairs, two names -/
theorem lc_pair {i j : Nat} {te : DE} (g : PyData → PyData → PyData) {ρ : DEnv} (hij : i ≠ j) (hi : Kept ρ i) (hj : Kept ρ j) {Q : List PyData → DEnv → Prop} : ∀ (ps : List (PyData × PyData)) (acc : List PyData),
    (∀ p ∈ ps, ∀ Q', Q' (g p.1 p.2) ((ρ.set i (.d p.1)).set j (.d p.2)) → te ((ρ.set i (.d p.1)).set j (.d p.2)) Q') → acc.length + ps.length ≤ 16000000 →
    Q (acc ++ ps.map fun p => g p.1 p.2) ρ → lcGo (gdTup 2 (gdCons (gSet i) (gdCons (gSet j) gdNil))) dYes te [i, j] (ps.map fun p => .tuple [p.1, p.2]) acc ρ Q
  | [], acc, _, _, q => by
    show Q acc ρ
    simpa using q
  | p :: ps, acc, he, hl, q => by
    refine ⟨by rw [sizeLine_eq]; simp at hl; omega, rfl, ?_⟩
    have e1 : ((wipeD ρ [i, j]).set i (.d p.1)).set j (.d p.2) = (ρ.set i (.d p.1)).set j (.d p.2) := by
      show ((((ρ.set j .no).set i .no).set i (.d p.1)).set j (.d p.2)) = _
      rw [List.set_set, List.set_comm _ _ hij.symm, List.set_set]
    simp only [gdCons, gdNil, gSet, dYes, if_true]
    rw [e1]
    refine he p List.mem_cons_self _ ?_
    have e2 : backD ρ ((ρ.set i (.d p.1)).set j (.d p.2)) [i, j] = ρ := by
      have h1 : backD ρ ((ρ.set i (.d p.1)).set j (.d p.2)) [j] = ρ.set i (.d p.1) := by
        rw [backD_one, List.set_set]
        refine set_self _ j _ fun b e => ?_
        rw [List.getElem?_set_ne hij] at e
        rw [e]; exact (hj b e).symm
      show List.set (backD ρ _ [j]) i _ = ρ
      rw [h1]
      have h2 := back_self hi (.d p.1)
      cases e : ρ[i]? with
      | some s => rw [e] at h2; exact h2
      | none => rw [e] at h2; exact h2
    rw [e2]
    refine lc_pair g hij hi hj ps _ (fun y hy => he y (List.mem_cons_of_mem _ hy)) (by simp at hl ⊢; omega) ?_
    simpa using q
theorem kept_d {ρ : DEnv} {i : Nat} {x : PyData} (h : ρ[i]? = some (.d x)) : Kept ρ i := fun s e => by rw [h] at e; cases e; rfl
theorem map_const {α β : Type} (b : β) (l : List α) : (l.map fun _ => b) = List.replicate l.length b := by
  induction l with
  | nil => rfl
  | cons a l ih => rw [List.map_cons, ih]; rfl
end DL

namespace DL
open PySem PySem.Spec PyProof.Rows L2
abbrev DK := DEnv → (KD → DEnv → Prop) → Prop
abbrev DPs := DEnv → (List (PyData × PyData) → DEnv → Prop) → Prop
def dNewK : DK := fun ρ Q => Q [] ρ
instance semNewK : SemK tDNewK dNewK where
  run := fun h q k p hp => k p _ _ _ _ _ (h.newO hp) .refl upd_same .nil (h.eb.free hp) (h.ef.free hp) (fun o => h.od p o hp) (h.free_new hp) q
theorem pe_dnewD {X : Cx} {pos : Pos} : PE X (.Dict [] [] pos) tDNewK := pe_dnewK
abbrev RpP (B : Hp) : List (V × V) → List (PyData × PyData) → Prop := Paired fun p q => Rp B p.1 q.1 ∧ Rp B p.2 q.2
class SemPs (T : List (TE × TE)) (t : outParam DPs) : Prop where
  run : ∀ {O : Addr → Prop} {F B H : Hp} {σ : L2.St} {ρ : DEnv} {Q : List (PyData × PyData) → DEnv → Prop} {Q' : List (V × V) → Hp → Prop}, R O F B H σ ρ → t ρ Q →
    (∀ ps H' B' ρ' ds, R O F B' H' σ ρ' → Gr O B B' → RpP B' ps ds → Q ds ρ' → Q' ps H') → tPairs T σ H Q'
def dP0 : DPs := fun ρ Q => Q [] ρ
def dPc (a b : DE) (r : DPs) : DPs := fun ρ Q => a ρ fun x ρ1 => b ρ1 fun y ρ2 => r ρ2 fun ps ρ3 => Q ((x, y) :: ps) ρ3
theorem dP0_ap : ∀ ρ Q, dP0 ρ Q = Q [] ρ := fun _ _ => rfl
theorem dPc_ap (a b : DE) (r : DPs) : ∀ ρ Q, dPc a b r ρ Q = a ρ fun x ρ1 => b ρ1 fun y ρ2 => r ρ2 fun ps ρ3 => Q ((x, y) :: ps) ρ3 := fun _ _ => rfl
instance semP0 : SemPs [] dP0 where
  run := fun h q k => k _ _ _ _ _ h .refl .nil q
instance semPc (Ta Tb : TE) (Tr : List (TE × TE)) (a b : DE) (r : DPs) [i1 : SemE Ta a] [i2 : SemE Tb b] [i3 : SemPs Tr r] : SemPs ((Ta, Tb) :: Tr) (dPc a b r) where
  run := fun h q k => i1.run h q fun x H1 B1 ρ1 dx h1 g1 rx q1 => i2.run h1 q1 fun y H2 B2 ρ2 dy h2 g2 ry q2 => i3.run h2 q2 fun ps H3 B3 ρ3 ds h3 g3 rp q3 =>
    k _ _ _ _ _ h3 ((g1.trans g2).trans g3) (.cons ⟨rx.up (g2.trans g3).ex, ry.up g3.ex⟩ rp) q3
theorem rpp_kv {B : Hp} : ∀ {l : KD} {ps : List (V × V)}, RpP B ps (kvD l) → ∃ kvs : List (Key × V), ps = kvs.map (fun kv => (kV kv.1, kv.2)) ∧ RpG B kvs l
  | [], _, h => by
    cases h
    exact ⟨[], rfl, .nil⟩
  | (k, d) :: l, _, h => by
    cases h with
    | @cons p q ps qs a r =>
      obtain ⟨kvs, rfl, rg⟩ := rpp_kv r
      obtain ⟨v1, v2⟩ := p
      obtain ⟨a1, a2⟩ := a
      cases rp_kD a1
      exact ⟨(k, v2) :: kvs, rfl, .cons ⟨rfl, a2⟩ rg⟩
def dDisp (r : DPs) : DK := fun ρ Q => r ρ fun ps ρ1 => ∃ l : KD, ps = kvD l ∧ l.length ≤ 15 ∧ Q (mergeG [] l) ρ1
theorem dDisp_ap (r : DPs) : ∀ ρ Q, dDisp r ρ Q = r ρ fun ps ρ1 => ∃ l : KD, ps = kvD l ∧ l.length ≤ 15 ∧ Q (mergeG [] l) ρ1 := fun _ _ => rfl
theorem dNewK_ap : ∀ ρ Q, dNewK ρ Q = Q [] ρ := fun _ _ => rfl
theorem rpg_len {B : Hp} : ∀ {kvs : List (Key × V)} {l : KD}, RpG B kvs l → kvs.length = l.length
  | _, _, .nil => rfl
  | _, _, .cons a b => by simp [rpg_len b]
instance semDisp (T : List (TE × TE)) (r : DPs) [i1 : SemPs T r] : SemK (tDisp T) (dDisp r) where
  run := by
    intro O F B H σ ρ Q Q' h q k p hp
    have h1 := h.newO (o := .dK []) hp
    have h2 := h1.guard (D := p) (o := .dK []) upd_same (h.free_new hp)
    refine i1.run h2 q fun ps H2 B2 ρ2 ds h3 g3 rps q3 => ?_
    obtain ⟨l, rfl, hl, q3⟩ := q3
    obtain ⟨kvs, rfl, rg⟩ := rpp_kv rps
    have hp2 : H2 p = some (.dK []) := h3.ef p _ upd_same
    have nb : B2 p = none := by
      rcases g3.ag p (.inr rfl) with e | ⟨xs, e⟩
      · rw [e]; exact h.eb.free hp
      · have := h3.eb _ _ e
        rw [hp2] at this
        cases this
    obtain ⟨h4, f4⟩ := h3.unguard (o' := .dK (mergeK [] kvs)) (h.ef.free hp) nb (fun _ _ z => nomatch z)
    exact ⟨hp2, kvs, rfl, by rw [rpg_len rg]; exact hl, k p _ _ _ _ _ h4 ⟨g3.ex, fun p hp => g3.ag p (.inl hp)⟩ upd_same (RpG.merge rg .nil) nb (h.ef.free hp) (fun o => h.od p o hp) f4 q3⟩
theorem pe_dispD {X : Cx} {pos : Pos} {keys : List (Option Expr)} {values : List Expr} {trs : List (TE × TE)} (h : PPs X pos keys values trs) (hall : keys.all (·.isSome) = true := by rfl) (hl : keys.length = values.length := by rfl) (h0 : keys ≠ [] := by exact fun z => nomatch z)
    (h15 : keys.length ≤ 15 := by decide) : PE X (.Dict keys values pos) (tDisp trs) := pe_disp h hall hl h0 h15
/-- a name set to a new dict: its own -/
def dAsgK (a : DK) (i : Nat) : DS := fun D ρ => a ρ fun l ρ1 => D.nx (ρ1.set i (.k (kvD l)))
theorem dAsgK_ap (a : DK) (i : Nat) : ∀ D ρ, dAsgK a i D ρ = a ρ fun l ρ1 => D.nx (ρ1.set i (.k (kvD l))) := fun _ _ => rfl
instance (priority := high) semAsgK (Ta : TE) (i : Nat) (a : DK) [i1 : SemK Ta a] : SemS (tAsg Ta (gName i)) (dAsgK a i) where
  run := fun h q e => i1.run h q fun p vs l H1 B1 ρ1 h1 g1 hp rl nb nf no fr q1 =>
    e.nx (h1.set (s := .k (kvD l)) ⟨p, vs, rfl, hp, rl.k, nb, nf, no⟩ fun _ q e => by cases e; exact fr) g1 q1
end DL

namespace DL
open PySem PySem.Spec PyProof.Rows L2
theorem seq_step {t u : DS} {D : DEnds} {ρ : DEnv} (h : ∀ K : DEnv → Prop, (∀ ρ1, u D ρ1 → K ρ1) → t { D with nx := K } ρ) : dSeq t u D ρ := h _ fun _ h => h
theorem len_cons {α : Type} {n : Nat} {r : List α} (h : r.length = n + 1) : ∃ s r', r = s :: r' ∧ r'.length = n := by
  cases r with
  | nil => cases h
  | cons s r => exact ⟨s, r, rfl, by simpa using h⟩
theorem strOk_app {a b : Str} (h1 : PyData.strOk a = true) (h2 : PyData.strOk b = true) : PyData.strOk (a ++ b) = true := by
  have e : (a ++ b).cps = a.cps ++ b.cps := rfl
  simp only [PyData.strOk] at h1 h2 ⊢
  rw [e, Array.all_append, h1, h2]; rfl
theorem strOk_join {sep : Str} (hs : PyData.strOk sep = true) : ∀ {ys : List Str}, (∀ y ∈ ys, PyData.strOk y = true) → PyData.strOk (Txt.join sep ys) = true := by
  intro ys h
  rw [show Txt.join sep ys = Str.join sep ys from StrLaws.glued_eq_join sep ys]
  induction ys with
  | nil => simp [PyData.strOk, Str.join, Str.empty]
  | cons y ys ih =>
    cases ys with
    | nil => exact h y List.mem_cons_self
    | cons z ys => exact strOk_app (strOk_app (h y List.mem_cons_self) hs) (ih fun w hw => h w (List.mem_cons_of_mem _ hw))
theorem strOk_one {z : Str} (h : PyData.strOk z = true) {c : Nat} (hc : c ∈ z.cps.toList) : PyData.strOk ⟨#[c]⟩ = true := by
  have h' : z.cps.all (· < 0x110000) = true := h
  have := Array.all_eq_true'.mp h' c (by simpa using hc)
  simp only [PyData.strOk]
  simpa using this
theorem strOk_cut {z : Str} (h : PyData.strOk z = true) (lo hi : Option Int) : PyData.strOk (cutS z lo hi) = true := by
  have h' : z.cps.all (· < 0x110000) = true := h
  have h2 := Array.all_eq_true'.mp h'
  simp only [PyData.strOk, cutS, List.all_toArray, List.all_eq_true]
  intro c hc
  exact h2 c (by simpa using List.mem_of_mem_drop (List.mem_of_mem_take hc))
/-- a comprehension over one name: its slot is anything behind it -/
theorem lc_all {i : Nat} {tt : DT} {te : DE} (f : PyData → Bool) (g : PyData → PyData) {ρ0 : DEnv} {Q : List PyData → DEnv → Prop} : ∀ (xs acc : List PyData) (s0 : Sl),
    (∀ x ∈ xs, ∀ Q', Q' (f x) (ρ0.set i (.d x)) → tt (ρ0.set i (.d x)) Q') → (∀ x ∈ xs, f x = true → ∀ Q', Q' (g x) (ρ0.set i (.d x)) → te (ρ0.set i (.d x)) Q') → acc.length + xs.length ≤ 16000000 →
    (∀ s, Q (acc ++ (xs.filter f).map g) (ρ0.set i s)) → lcGo (gSet i) tt te [i] xs acc (ρ0.set i s0) Q
  | [], acc, s0, _, _, _, q => by
    show Q acc _
    simpa using q s0
  | x :: xs, acc, s0, ht, he, hl, q => by
    have e1 : (wipeD (ρ0.set i s0) [i]).set i (.d x) = ρ0.set i (.d x) := by
      show (((ρ0.set i s0).set i .no).set i (.d x)) = _
      rw [List.set_set, List.set_set]
    refine ⟨by rw [sizeLine_eq]; simp at hl; omega, ?_⟩
    show tt ((wipeD (ρ0.set i s0) [i]).set i (.d x)) _
    rw [e1]
    refine ht x List.mem_cons_self _ ?_
    have hr : acc.length + xs.length ≤ 16000000 := by simp at hl; omega
    cases hf : f x with
    | true =>
      rw [if_pos rfl]
      refine he x List.mem_cons_self hf _ ?_
      rw [backD_one, List.set_set]
      refine lc_all f g xs _ _ (fun y hy => ht y (List.mem_cons_of_mem _ hy)) (fun y hy => he y (List.mem_cons_of_mem _ hy)) (by simp at hl ⊢; omega) ?_
      simpa [List.filter_cons, hf] using q
    | false =>
      rw [if_neg Bool.false_ne_true, backD_one, List.set_set]
      refine lc_all f g xs _ _ (fun y hy => ht y (List.mem_cons_of_mem _ hy)) (fun y hy => he y (List.mem_cons_of_mem _ hy)) hr ?_
      simpa [List.filter_cons, hf] using q
/-- .. from any slots -/
theorem lc_fun {i : Nat} {tt : DT} {te : DE} (f : PyData → Bool) (g : PyData → PyData) {ρ : DEnv} {Q : List PyData → DEnv → Prop} (xs : List PyData)
    (ht : ∀ x ∈ xs, ∀ Q', Q' (f x) (ρ.set i (.d x)) → tt (ρ.set i (.d x)) Q') (he : ∀ x ∈ xs, f x = true → ∀ Q', Q' (g x) (ρ.set i (.d x)) → te (ρ.set i (.d x)) Q') (hl : xs.length ≤ 16000000)
    (q : ∀ s, Q ((xs.filter f).map g) (ρ.set i s)) : lcGo (gSet i) tt te [i] xs [] ρ Q := by
  have h := lc_all f g (ρ0 := ρ) (Q := Q) xs [] (ρ[i]?.getD .no) ht he (by simpa using hl) (by simpa using q)
  have e : ρ.set i (ρ[i]?.getD .no) = ρ := set_self ρ i _ fun b e => by rw [e]; rfl
  rwa [e] at h
def atomB (d : PyData) : Bool := flatOk d && d.showable && d.leavesShort 600 && decide (d.weight ≤ 200)
def goodB (d : PyData) : Bool := d.canLay0 && d.showable && d.leavesShort 600 && decide (d.depth ≤ 10) && decide (d.weight ≤ 20000)
theorem goodB_iff {d : PyData} : goodB d = true ↔ (((d.canLay0 = true ∧ d.showable = true) ∧ d.leavesShort 600 = true) ∧ d.depth ≤ 10) ∧ d.weight ≤ 20000 := by
  simp [goodB, Bool.and_eq_true, decide_eq_true_eq]
theorem atomB_iff {d : PyData} : atomB d = true ↔ ((flatOk d = true ∧ d.showable = true) ∧ d.leavesShort 600 = true) ∧ d.weight ≤ 200 := by
  simp [atomB, Bool.and_eq_true, decide_eq_true_eq]
theorem atoms_all : ∀ {xs : List PyData}, (∀ x ∈ xs, atomB x = true) → PyData.canLayAll0 xs = true ∧ PyData.showableAll xs = true ∧ PyData.leavesShortAll 600 xs = true ∧ PyData.depthAll xs = 0 ∧ PyData.weightAll xs ≤ 201 * xs.length
  | [], _ => by simp [PyData.canLayAll0, PyData.showableAll, PyData.leavesShortAll, PyData.depthAll, PyData.weightAll]
  | x :: xs, h => by
    obtain ⟨h1, h2, h3, h4, h5⟩ := atoms_all fun y hy => h y (List.mem_cons_of_mem _ hy)
    obtain ⟨⟨⟨a1, a2⟩, a3⟩, a4⟩ := atomB_iff.mp (h x List.mem_cons_self)
    obtain ⟨a5, a6⟩ := flat_lay a1
    simp only [PyData.canLayAll0, PyData.showableAll, PyData.leavesShortAll, PyData.depthAll, PyData.weightAll, Bool.and_eq_true, List.length_cons]
    refine ⟨⟨a5, h1⟩, ⟨a2, h2⟩, ⟨a3, h3⟩, by omega, by omega⟩
theorem good_list {xs : List PyData} (h : ∀ x ∈ xs, atomB x = true) (hl : xs.length ≤ 90) : goodB (.list xs) = true := by
  obtain ⟨h1, h2, h3, h4, h5⟩ := atoms_all h
  rw [goodB_iff]
  simp only [PyData.canLay0, PyData.showable, PyData.leavesShort, PyData.depth, PyData.weight]
  exact ⟨⟨⟨⟨h1, h2⟩, h3⟩, by omega⟩, by omega⟩
theorem good_tuple {xs : List PyData} (h : ∀ x ∈ xs, atomB x = true) (hl : xs.length ≤ 90) : goodB (.tuple xs) = true := by
  obtain ⟨h1, h2, h3, h4, h5⟩ := atoms_all h
  rw [goodB_iff]
  simp only [PyData.canLay0, PyData.showable, PyData.leavesShort, PyData.depth, PyData.weight]
  exact ⟨⟨⟨⟨h1, h2⟩, h3⟩, by omega⟩, by omega⟩
theorem atom_good {d : PyData} (h : atomB d = true) : goodB d = true := by
  obtain ⟨⟨⟨a1, a2⟩, a3⟩, a4⟩ := atomB_iff.mp h
  obtain ⟨a5, a6⟩ := flat_lay a1
  rw [goodB_iff]
  exact ⟨⟨⟨⟨a5, a2⟩, a3⟩, by omega⟩, by omega⟩
theorem atom_int {i : Int} (h1 : -(10 ^ 12) < i) (h2 : i < 10 ^ 12) : atomB (.int i) = true := by
  have e12 : (10 : Nat) ^ 12 = 1000000000000 := by decide
  have e13 : (10 : Int) ^ 12 = 1000000000000 := by decide
  rw [e13] at h1 h2
  have hn : i.natAbs < 10 ^ 12 := by rw [e12]; omega
  have hl : i.natAbs.log2 < 41 := by
    by_cases z : i.natAbs = 0
    · rw [z]; decide
    · exact (Nat.log2_lt z).mpr (by rw [e12] at hn; have : (2 : Nat) ^ 41 = 2199023255552 := by decide
                                    omega)
  have hs := PyData.shown_int_le hn
  rw [atomB_iff]
  refine ⟨⟨⟨rfl, ?_⟩, ?_⟩, ?_⟩
  · simp only [PyData.showable, decide_eq_true_eq]; omega
  · simp only [PyData.leavesShort, decide_eq_true_eq]; omega
  · simp only [PyData.weight]; split <;> omega
theorem atom_str {z : Str} (h : PyData.strOk z = true) (hl : z.length ≤ 200) : atomB (.str z) = true := by
  rw [atomB_iff]
  refine ⟨⟨⟨h, ?_⟩, ?_⟩, ?_⟩
  · simp only [PyData.showable]
  · simp only [PyData.leavesShort, List.all_eq_true, decide_eq_true_eq]
    intro c hc
    have h' : z.cps.all (· < 0x110000) = true := h
    have := Array.all_eq_true'.mp h' c (by simpa using hc)
    have e : (16 : Nat) ^ 8 = 4294967296 := by decide
    have : c < 0x110000 := by simpa using this
    omega
  · simp only [PyData.weight]; exact hl
theorem good_repr {d : PyData} (h : goodB d = true) : reprOk d := by
  obtain ⟨⟨⟨⟨a1, a2⟩, a3⟩, a4⟩, a5⟩ := goodB_iff.mp h
  have := PyData.shown_le 600 (by decide) d a3
  have e : (600 + 2) * d.weight ≤ 602 * 20000 := Nat.mul_le_mul_left 602 a5
  refine ⟨a2, by omega, by rw [sizeLine_eq]; omega, .inl (PyData.hasDict_of_canLay d a1)⟩
theorem good_cop {d : PyData} (h : goodB d = true) : cop 12 d := by
  obtain ⟨⟨⟨⟨a1, a2⟩, a3⟩, a4⟩, a5⟩ := goodB_iff.mp h
  exact cop_lay 12 d a1 (by omega) (by omega)
def bools : List Bool → List PyData := List.map .bool
theorem exa_bools {n : Nat} {bs : List PyData} (h : ∀ b ∈ bs, ∃ c, b = .bool c) (hl : bs.length ≤ 1000000) : exa (n + 2) (.list bs) := ⟨hl, fun x hx => by
  obtain ⟨c, rfl⟩ := h x hx
  trivial⟩
theorem end_ok {K : PySem.W.Frag} {fn : DFnL} (hfn : ∀ ns, fn ns fun d => d = .bool true) {H : Hp} {a : Addr} {ns : List Int} (hO : Only H) (hS : SqL K H a (ns.map V.int)) : spL K fn [.ref a] H (fun v _ => v = .bl true) E0 := by
  obtain ⟨u, hu, hsc⟩ := script_of hO hS
  exact ⟨a, u, ns, fun d => d = .bool true, rfl, hu, hsc, hfn ns, fun d v H' B' r e => by subst e; cases r; rfl⟩
theorem FnG.void {P : Program} {w : World} {K : PySem.W.Frag} {mg : Str → Option Value} {base : Heap} {k : Nat} {f : Addr} {fd : FuncData} {ps : List Str} {fn : DFn} (h : ∀ ds Q, ¬ fn ds Q) : FnG P w K mg base k f fd ps (spD fn) :=
  ⟨fun vs H Q E ⟨B, ds, Qd, _, _, q, _⟩ => absurd q (h ds Qd), fun A outer s H args us vs Q E _ _ _ _ _ ⟨B, ds, Qd, _, _, q, _⟩ => absurd q (h ds Qd)⟩
theorem cut_mem {xs : List PyData} {lo hi : Option Int} {y : PyData} (h : y ∈ DL.cutD xs lo hi) : y ∈ xs := List.mem_of_mem_drop (List.mem_of_mem_take h)
theorem cut_len (xs : List PyData) (lo hi : Option Int) : (DL.cutD xs lo hi).length ≤ xs.length := by
  unfold DL.cutD
  have h2 : ((xs.drop (HT.sIx xs.length 0 lo)).take (HT.sIx xs.length xs.length hi - HT.sIx xs.length 0 lo)).length ≤ (xs.drop (HT.sIx xs.length 0 lo)).length := List.length_take_le' _ _
  rw [List.length_drop] at h2
  omega
theorem Gen.step {n : Nat} {gs : List PyData} (k : Nat) (h : Gen (n + k) gs) : Gen n gs := h.le (by omega)
theorem rng_length (lo hi : Int) : (rng lo hi).length = (hi - lo).toNat := by simp [rng]
end DL

namespace DL
open PySem PySem.Spec PyProof.Rows L2
def good (d : PyData) : Prop := goodB d = true ∨ d = .dict [] ∨ d = .dict [(.str "a", .int 1)]
theorem good_rep {v : PyData} (h : good v) : reprOk v := by
  rcases h with h | rfl | rfl
  · exact good_repr h
  · exact ⟨by decide, by decide, by decide +kernel, .inr ⟨_, rfl, rfl⟩⟩
  · exact ⟨by decide, by decide, by decide +kernel, .inr ⟨_, rfl, rfl⟩⟩
theorem good_copy {v : PyData} (h : good v) : cop 12 v := by
  rcases h with h | rfl | rfl
  · exact good_cop h
  · exact ⟨[], rfl, by decide, by decide, by simp⟩
  · exact ⟨[(.inr "a", .int 1)], rfl, by decide, by decide, fun p hp => by rw [List.mem_singleton.mp hp]; trivial⟩
def goodD : PyData → Bool
  | .dict [] => true
  | .dict [(.str s, .int 1)] => decide (s = "a")
  | d => goodB d
theorem goodD_ok {d : PyData} (h : goodD d = true) : good d := by
  unfold goodD at h
  split at h
  · exact .inr (.inl rfl)
  · exact .inr (.inr (by rw [of_decide_eq_true h]))
  · exact .inl h
def fn_law_any : DFnG := fun gs ds Q => ∃ n, ds = [] ∧ Gen (n + 1) gs ∧ ∀ d gs', good d → Gen n gs' → Q d gs'
theorem exa_lay : ∀ (n : Nat) (d : PyData), d.canLay0 = true → d.depth < n → d.weight ≤ 1000000 → exa n d
  | 0, _, _, h, _ => absurd h (Nat.not_lt_zero _)
  | n + 1, .list xs, hc, hd, hw => by
    have hc' : PyData.canLayAll0 xs = true := by simpa [PyData.canLay0] using hc
    simp only [PyData.depth] at hd
    simp only [PyData.weight] at hw
    refine ⟨Nat.le_trans (len_weight xs) hw, fun x hx => exa_lay n x (mem_lay hc' hx) ?_ (Nat.le_trans (mem_weight hx) hw)⟩
    have := mem_depth hx
    omega
  | n + 1, .tuple xs, hc, hd, hw => by
    have hc' : PyData.canLayAll0 xs = true := by simpa [PyData.canLay0] using hc
    simp only [PyData.depth] at hd
    simp only [PyData.weight] at hw
    refine ⟨Nat.le_trans (len_weight xs) hw, fun x hx => exa_lay n x (mem_lay hc' hx) ?_ (Nat.le_trans (mem_weight hx) hw)⟩
    have := mem_depth hx
    omega
  | n + 1, .dict kvs, hc, _, _ => by simp [PyData.canLay0] at hc
  | n + 1, .none, _, _, _ => trivial
  | n + 1, .bool _, _, _, _ => trivial
  | n + 1, .int _, _, _, _ => trivial
  | n + 1, .str _, _, _, _ => trivial
end DL

namespace DL
open PySem PySem.Spec PyProof.Rows L2

theorem rpl_bools {B : Hp} : ∀ {bs : List Bool} {vs : List V}, RpL B vs (bs.map .bool) → vs = bs.map V.bl
  | [], vs, h => by cases h; rfl
  | n :: ns, vs, h => by
    cases h with
    | cons a r =>
      cases a
      rw [rpl_bools r]
      rfl
section
variable {X : Cx}
def rAllD : List V → Hp → VK → Prop := fun vs H Q => ∃ (a : Addr) (bs : List Bool), vs = [V.ref a] ∧ H a = some (.lst (bs.map V.bl)) ∧ Q (.bl (bs.all id)) H
def rAnyD : List V → Hp → VK → Prop := fun vs H Q => ∃ (a : Addr) (bs : List Bool), vs = [V.ref a] ∧ H a = some (.lst (bs.map V.bl)) ∧ Q (.bl (bs.any id)) H
theorem callr_all (hc : X.calm = true) : CallR X (.builtin "all") rAllD := CallR.of (cr_all hc) fun xs H Q ⟨a, ns, e, h, q⟩ => ⟨a, ns, e, .of h, q⟩
theorem callr_any (hc : X.calm = true) : CallR X (.builtin "any") rAnyD := CallR.of (cr_any hc) fun xs H Q ⟨a, ns, e, h, q⟩ => ⟨a, ns, e, .of h, q⟩
def dAll : DL1 := fun xs Q => ∃ bs : List Bool, xs = [.list (bs.map .bool)] ∧ Q (.bool (bs.all id))
def dAnyL : DL1 := fun xs Q => ∃ bs : List Bool, xs = [.list (bs.map .bool)] ∧ Q (.bool (bs.any id))
instance callAll : CallD rAllD dAll where
  run := by
    intro O F B H σ ρ xs ds Q Q' h rx q k
    obtain ⟨ns, rfl, q⟩ := q
    cases rx with
    | cons a r =>
      cases r
      cases a with
      | lst e r =>
        have := rpl_bools r
        subst this
        exact ⟨_, ns, rfl, h.eb _ _ e, k _ _ _ _ h .refl (.bl _) q⟩
instance callAny : CallD rAnyD dAnyL where
  run := by
    intro O F B H σ ρ xs ds Q Q' h rx q k
    obtain ⟨ns, rfl, q⟩ := q
    cases rx with
    | cons a r =>
      cases r
      cases a with
      | lst e r =>
        have := rpl_bools r
        subst this
        exact ⟨_, ns, rfl, h.eb _ _ e, k _ _ _ _ h .refl (.bl _) q⟩
def tIns (i : Nat) (tk te : TE) : TS := fun D σ H => ∃ p xs0, σ[i]? = some (some (.ref p)) ∧ H p = some (.lst xs0) ∧ tk σ H fun k H1 => te σ H1 fun y H2 => ∃ xs j, k = .int j ∧ H2 p = some (.lst xs) ∧ xs.length < sizeLine ∧ 0 ≤ j ∧ j < 2 ^ 63 ∧ D.nx σ (upd H2 p (.lst (xs.take j.toNat ++ [y] ++ xs.drop j.toNat)))
theorem ps_ins {i : Nat} {x : Str} {a e : Expr} {tk te : TE} {px apos cpos pos : Pos} (ho : PE X (.Name x px) (tVar i)) (hk : PE X a tk) (he : PE X e te)
    (hbase : attributeBase (.Name x px) "insert" X.env (eval (.Name x px) X.env) = eval (.Name x px) X.env := by rfl)
    (hfew : ((backTo cpos (starEach (a :: [e]) X.env)).all (fun x => !x.1) && (backToKw cpos (keywordEach [] X.env)).all (fun x => x.1.isSome)
      && decide ((a :: ([e] : List Expr)).length + ([] : List Keyword).length + (if ([] : List Keyword).isEmpty then 0 else 1) < 30)) = true := by rfl)
    (hline : (apos.endLine == cpos.line) = true := by rfl) (hs : starEach (a :: [e]) X.env = (false, eval a X.env) :: starEach [e] X.env := by rfl) (hs2 : starEach (e :: []) X.env = (false, eval e X.env) :: starEach [] X.env := by rfl) (hplain : (backTo cpos (starEach [e] X.env)).any (·.1) = false := by rfl)
    (hsw : swapsWith (.Call (.Attribute (.Name x px) "insert" apos) [a, e] [] cpos) none pos.line X.env = pure false := by rfl) :
    PS X (.Expr (.Call (.Attribute (.Name x px) "insert" apos) [a, e] [] cpos) pos) (tIns i tk te) :=
  PS.of (ps_expr (pe_bm PySem.F.plainAttrs_list PySem.F.slot_list_insert PySem.F.type_list_insert mt_insert ho (pa_cons (pe_M hk) (pa_cons (pe_M he) pa_nil hs2) hs) hbase hfew hline hs hplain) hsw)
    fun D σ H ⟨p, xs0, e1, e2, h⟩ => ⟨.ref p, e1, .inl ⟨rfl, _, .inl (.inl e2)⟩, _, h, fun k H1 h2 => ⟨_, h2, fun y H2 ⟨xs, j, ek, e3, hl, h0, h1, q⟩ => ⟨p, xs, j, y, rfl, by rw [ek], e3, hl, h0, h1, q⟩⟩⟩
def tUp (to : TE) : TE := fun σ H Q => to σ H fun x H1 => ∃ a, x = .str a ∧ a.length ≤ 5592405 ∧ Q (.str (Txt.upper a)) H1
theorem pe_upD {o : Expr} {to : TE} {apos pos : Pos} (ho : PE X o to) (hbase : attributeBase o "upper" X.env (eval o X.env) = eval o X.env := by rfl) (hline : (apos.endLine == pos.line) = true := by rfl) :
    PE X (.Call (.Attribute o "upper" apos) [] [] pos) (tUp to) :=
  PE.of (pe_upper (pe_M ho) hbase hline) fun σ H Q h => ⟨_, h, fun v H1 ⟨a, ea, hl, q⟩ => ⟨⟨a, ea⟩, a, ea, rfl, hl, q⟩⟩
def dUp (a : DE) : DE := fun ρ Q => a ρ fun x ρ1 => match x with
  | .str z => z.length ≤ 5592405 ∧ Q (.str (Txt.upper z)) ρ1
  | _ => False
instance semUp (Ta : TE) (a : DE) [i1 : SemE Ta a] : SemE (tUp Ta) (dUp a) where
  run := fun h q k => i1.run h q fun x H1 B1 ρ1 d h1 g1 rx q1 => by
    cases rx with
    | str z => exact ⟨z, rfl, q1.1, k _ _ _ _ _ h1 g1 (.str _) q1.2⟩
    | _ => exact q1.elim
end
theorem RpL.insert {B : Hp} {vs : List V} {ds : List PyData} {v : V} {d : PyData} (h : RpL B vs ds) (hv : Rp B v d) (n : Nat) : RpL B (vs.take n ++ [v] ++ vs.drop n) (ds.take n ++ [d] ++ ds.drop n) :=
  ((RpL.take n h).append (.one hv)).append (RpL.drop n h)
def dIns (i : Nat) (a b : DE) : DS := fun D ρ => ownL ρ[i]? = true ∧ a ρ fun k ρ1 => b ρ1 fun y ρ2 => match k, ρ2[i]? with
  | .int j, some (.l xs) => xs.length < sizeLine ∧ 0 ≤ j ∧ j < 2 ^ 63 ∧ D.nx (ρ2.set i (.l (xs.take j.toNat ++ [y] ++ xs.drop j.toNat)))
  | _, _ => False
instance semIns (i : Nat) (Ta Tb : TE) (a b : DE) [i1 : SemE Ta a] [i2 : SemE Tb b] : SemS (tIns i Ta Tb) (dIns i a b) where
  run := by
    intro O F B H σ ρ D D' h q e
    obtain ⟨e0, q⟩ := q
    obtain ⟨p, vs0, e1, e2⟩ := ownL_lst h e0
    refine ⟨p, vs0, e1, e2, i1.run h q fun x H1 B1 ρ1 d h1 g1 rx q1 => i2.run h1 q1 fun y H2 B2 ρ2 d2 h2 g2 ry q2 => ?_⟩
    split at q2
    · rename_i j xs es
      cases rx
      obtain ⟨o, e3, p', vs, rfl, e4, r4, n1, n2, n3⟩ := h2.sl _ _ es
      rw [e1] at e3
      cases e3
      exact ⟨vs, j, rfl, e4, by rw [r4.length]; exact q2.1, q2.2.1, q2.2.2.1, e.nx (h2.mut (t := .l (xs.take j.toNat ++ [d2] ++ xs.drop j.toNat)) es rfl e1 n1 n2 (by rw [e4]; exact fun z => nomatch z) ⟨p, _, rfl, upd_same, r4.insert ry j.toNat, n1, n2, n3⟩ rfl) (g1.trans g2) q2.2.2.2⟩
    · exact q2.elim

def gvS : Sl → Sl
  | .l xs => .d (.list xs)
  | s => s
def clS : Sl → Sl
  | .l xs => .d (.list xs)
  | .g _ => .no
  | .k _ => .no
  | s => s
section
variable {O : Addr → Prop} {F B H : Hp} {σ : L2.St} {ρ : DEnv}
open Classical in
theorem R.giveAll (h : R O F B H σ ρ) : ∃ B', R O F B' H σ (ρ.map gvS) ∧ Gr O B B' := by
  let W : Addr → Prop := fun p => ∃ (i : Nat) (xs : List PyData), ρ[i]? = some (.l xs) ∧ σ[i]? = some (some (.ref p))
  have hW : ∀ p, W p → B p = none ∧ F p = none ∧ ¬ O p ∧ ∃ vs, H p = some (.lst vs) := fun p ⟨i, xs, e1, e2⟩ => by
    obtain ⟨o, e3, q, vs, rfl, hp, r, nb, nf, no⟩ := h.sl _ _ e1
    rw [e2] at e3
    cases e3
    exact ⟨nb, nf, no, vs, hp⟩
  let B' : Hp := fun p => if W p then H p else B p
  have at_ : ∀ p, W p → B' p = H p := fun p w => if_pos w
  have ne_ : ∀ p, ¬ W p → B' p = B p := fun p w => if_neg w
  have ex : Ex B B' := fun p o e => by
    by_cases w : W p
    · rw [(hW p w).1] at e; cases e
    · rw [ne_ p w]; exact e
  have exH : Ex B' H := fun p o e => by
    by_cases w : W p
    · rw [at_ p w] at e; exact e
    · rw [ne_ p w] at e; exact h.eb p o e
  refine ⟨B', ⟨exH, h.ef, h.fo, h.od, by simp [h.len], fun i s e => ?_, fun i j si sj p ei ej oi oj e1 e2 => ?_⟩, ex, fun p hp => .inl (ne_ p fun w => (hW p w).2.2.1 hp)⟩
  · rw [List.getElem?_map] at e
    cases e0 : ρ[i]? with
    | none => rw [e0] at e; cases e
    | some s0 =>
      rw [e0] at e
      cases e
      obtain ⟨o, e1, e2⟩ := h.sl _ _ e0
      refine ⟨o, e1, ?_⟩
      cases s0 with
      | no => trivial
      | d x => obtain ⟨v, e3, r⟩ := e2; exact ⟨v, e3, r.up ex⟩
      | v a u => exact e2
      | l xs =>
        obtain ⟨p, vs, rfl, hp, r, nb, nf, no⟩ := e2
        exact ⟨.ref p, rfl, .lst (by rw [at_ p ⟨i, xs, e0, e1⟩]; exact hp) (r.up ex)⟩
      | g xs =>
        obtain ⟨p, vs, rfl, hp, r, nb, nf, no⟩ := e2
        refine ⟨p, vs, rfl, hp, r.up ex, ?_, nf, no⟩
        rw [ne_ p fun w => (hW p w).2.2.1 no]; exact nb
      | k xs =>
        obtain ⟨p, vs, rfl, hp, r, nb, nf, no⟩ := e2
        refine ⟨p, vs, rfl, hp, r.up ex, ?_, nf, no⟩
        rw [ne_ p fun w => ?_]
        · exact nb
        · obtain ⟨_, _, _, vs', hp'⟩ := hW p w
          rw [hp] at hp'; cases hp'
  · have key : ∀ (k : Nat) (s : Sl), (ρ.map gvS)[k]? = some s → s.own = true → ρ[k]? = some s := fun k s e o => by
      rw [List.getElem?_map] at e
      cases e0 : ρ[k]? with
      | none => rw [e0] at e; cases e
      | some s0 =>
        rw [e0] at e
        cases e
        cases s0 <;> first | rfl | cases o
    exact h.sep i j si sj p (key i si ei oi) (key j sj ej oj) oi oj e1 e2
/-- all that stands is a frame; nothing is one's own -/
theorem R.clear (h : R O F B H σ (ρ.map gvS)) : R (fun p => H p ≠ none) H B H σ (ρ.map clS) where
  eb := h.eb
  ef := Ex.refl H
  fo := fun p hp => hp
  od := fun p hp => hp
  len := by have := h.len; simpa using this
  sl := fun i s e => by
    rw [List.getElem?_map] at e
    cases e0 : ρ[i]? with
    | none => rw [e0] at e; cases e
    | some s0 =>
      rw [e0] at e
      cases e
      obtain ⟨o, e1, e2⟩ := h.sl i (gvS s0) (by rw [List.getElem?_map, e0]; rfl)
      refine ⟨o, e1, ?_⟩
      cases s0 with
      | no => trivial
      | d x => exact e2
      | v a u => exact ⟨e2.1, fun z hz => h.ef _ _ (e2.2 z hz)⟩
      | l xs => exact e2
      | g xs => trivial
      | k xs => trivial
  sep := fun i j si sj p ei ej oi oj e1 e2 => by
    have key : ∀ (k : Nat) (s : Sl), (ρ.map clS)[k]? = some s → s.own = false := fun k s e => by
      rw [List.getElem?_map] at e
      cases e0 : ρ[k]? with
      | none => rw [e0] at e; cases e
      | some s0 =>
        rw [e0] at e
        cases e
        cases s0 <;> rfl
    rw [key i si ei] at oi
    cases oi
end
class SemF (T : TE) (t : outParam DE) (fr : outParam Bool) : Prop where
  run : ∀ {O : Addr → Prop} {F B H : Hp} {σ : L2.St} {ρ : DEnv} {Q : PyData → DEnv → Prop} {Q' : VK}, R O F B H σ ρ → t ρ Q →
    (∀ (v : V) (H' B' : Hp) (ρ' : DEnv) (d : PyData), R O F B' H' σ ρ' → Gr O B B' → Rp B' v d → (fr = true → ∃ q ds, v = .ref q ∧ ¬ O q ∧ d = .list ds) → Q d ρ' → Q' v H') → T σ H Q'
instance (priority := low) semFany (T : TE) (t : DE) [i : SemE T t] : SemF T t false where
  run := fun h q k => i.run h q fun v H' B' ρ' d h' g' r' q' => k v H' B' ρ' d h' g' r' (fun z => nomatch z) q'
instance semFnew (T : TE) (a : DA) [i1 : SemN T a] : SemF T (dN a) true where
  run := fun h q k => i1.run h q fun p vs ds H1 B1 ρ1 h1 g1 hp rx nb nf no fr q1 => by
    have g : Gr _ B1 (upd B1 p (.lst vs)) := Gr.share nb no
    exact k _ _ _ _ _ (h1.share hp nb fr) (g1.trans g) (.lst upd_same (rx.up g.ex)) (fun _ => ⟨p, ds, rfl, no, rfl⟩) q1
class SemAF (T : TA) (t : outParam DA) (frs : outParam (List Bool)) : Prop where
  run : ∀ {O : Addr → Prop} {F B H : Hp} {σ : L2.St} {ρ : DEnv} {Q : List PyData → DEnv → Prop} {Q' : List V → Hp → Prop}, R O F B H σ ρ → t ρ Q →
    (∀ (vs : List V) (H' B' : Hp) (ρ' : DEnv) (ds : List PyData), R O F B' H' σ ρ' → Gr O B B' → RpL B' vs ds → (∀ j : Nat, frs[j]? = some true → ∃ q xs, vs[j]? = some (.ref q) ∧ ¬ O q ∧ ds[j]? = some (.list xs)) → Q ds ρ' → Q' vs H') → T σ H Q'
instance semAFnil : SemAF tNil dNil [] where
  run := fun h q k => k _ _ _ _ _ h .refl .nil (fun j e => by simp at e) q
instance semAFcons (Ta : TE) (Tr : TA) (a : DE) (r : DA) (f : Bool) (fs : List Bool) [i1 : SemF Ta a f] [i2 : SemAF Tr r fs] : SemAF (tCons Ta Tr) (dCons a r) (f :: fs) where
  run := fun h q k => i1.run h q fun x H1 B1 ρ1 dx h1 g1 rx fx q1 => i2.run h1 q1 fun y H2 B2 ρ2 dy h2 g2 ry fy q2 =>
    k _ _ _ _ _ h2 (g1.trans g2) (.cons (rx.up g2.ex) ry) (fun j e => by
      cases j with
      | zero =>
        obtain ⟨q, ds, rfl, no, rfl⟩ := fx (by simpa using e)
        exact ⟨q, ds, rfl, no, rfl⟩
      | succ j => simpa using fy j (by simpa using e)) q2
section
variable {X : Cx}
def tSpoil (i : Nat) (j : Nat) (te : TE) : TS := fun D σ H => ∃ p vs q us0, σ[i]? = some (some (.ref p)) ∧ H p = some (.lst vs) ∧ vs[j]? = some (.ref q) ∧ H q = some (.lst us0) ∧ te σ H fun y H2 => ∃ us, H2 q = some (.lst us) ∧ us.length < sizeLine ∧ D.nx σ (upd H2 q (.lst (us ++ [y])))
theorem ps_spoil {i j : Nat} {o e : Expr} {te : TE} {apos cpos pos : Pos} (ho : PE X o (tOp rIxD (tVar i) (tC (.int (j : Int))))) (he : PE X e te)
    (hbase : attributeBase o "append" X.env (eval o X.env) = eval o X.env := by rfl)
    (hfew : ((backTo cpos (starEach (e :: []) X.env)).all (fun x => !x.1) && (backToKw cpos (keywordEach [] X.env)).all (fun x => x.1.isSome)
      && decide ((e :: ([] : List Expr)).length + ([] : List Keyword).length + (if ([] : List Keyword).isEmpty then 0 else 1) < 30)) = true := by rfl)
    (hline : (apos.endLine == cpos.line) = true := by rfl) (hs : starEach (e :: []) X.env = (false, eval e X.env) :: starEach [] X.env := by rfl) (hplain : (backTo cpos (starEach [] X.env)).any (·.1) = false := by rfl)
    (hsw : swapsWith (.Call (.Attribute o "append" apos) [e] [] cpos) none pos.line X.env = pure false := by rfl) :
    PS X (.Expr (.Call (.Attribute o "append" apos) [e] [] cpos) pos) (tSpoil i j te) :=
  PS.of (ps_expr (pe_bm PySem.F.plainAttrs_list PySem.F.slot_list_append PySem.F.type_list_append mt_append ho (pa_cons (pe_M he) pa_nil hs) hbase hfew hline hs hplain) hsw)
    fun D σ H ⟨p, vs, q, us0, e1, e2, e3, e4, h⟩ => ⟨.ref p, e1, .inl ⟨p, vs, (j : Int), .ref q, rfl, rfl, e2, atI_nat e3, .inl ⟨rfl, _, .inl (.inl e4)⟩, _, h, fun y H2 ⟨xs, e3, hl, qq⟩ => ⟨q, xs, y, rfl, rfl, e3, hl, qq⟩⟩⟩
end
def dSpoil (i j : Nat) (frs : List Bool) (tl : DA) (c : DT) (te : DE) (u : DS) : DS := fun D ρ => frs[j]? = some true ∧ tl (ρ.map clS) fun ds ρ1 => ds.length ≤ sizeLine ∧ i < ρ1.length ∧
  c (ρ1.set i (.d (.list ds))) fun b ρ2 => if b = true then D.rt (.bool false) ((ρ.map gvS).set i .no) else ρ2[i]? = some (.d (.list ds)) ∧ te ρ2 fun _ _ => (∀ xs, ds[j]? = some (.list xs) → xs.length < sizeLine) ∧ u D ((ρ.map gvS).set i .no)
instance (priority := high + 10) semSpoil (i j : Nat) (frs : List Bool) (Ta : TA) (Tc : TT) (Te : TE) (U : TS) (tl : DA) (c : DT) (te : DE) (u : DS) [i1 : SemAF Ta tl frs] [i2 : SemT Tc c] [i3 : SemE Te te] [i4 : SemS U u] :
    SemS (tSeq (tAsg (tLst Ta) (gName i)) (tSeq (tIfS Tc (tRet (tC (.bl false))) tNext) (tSeq (tSpoil i j Te) U))) (dSpoil i j frs tl c te u) where
  run := by
    intro O F B H σ ρ D D' h q e
    obtain ⟨B', hg, gg⟩ := h.giveAll
    obtain ⟨hj, q⟩ := q
    have hc := hg.clear
    have back : ∀ {H3 : Hp} (o : Option V), Ex H H3 → R O F B' H3 (σ.set i o) ((ρ.map gvS).set i .no) := fun o ex => (hg.grow (Ex.refl B') (hg.eb.trans ex) ex fun _ _ => .inl rfl).drop
    refine i1.run hc q fun vs H1 B1 ρ1 ds h1 g1 rl fr q1 => ?_
    obtain ⟨hl, hi, q1⟩ := q1
    refine ⟨by rw [rl.length]; exact hl, fun p hp => ?_⟩
    have h2 := h1.new (o := .lst vs) hp
    have g2 := Gr.new (o := .lst vs) h1 hp
    have rp : Rp (upd B1 p (.lst vs)) (.ref p) (.list ds) := .lst upd_same (rl.up g2.ex)
    have h3 := h2.set_d (i := i) rp
    show Tc (σ.set i (some (.ref p))) _ _
    refine i2.run h3 q1 fun b H4 B4 ρ4 h4 g4 q4 => ?_
    cases b with
    | true =>
      rw [if_pos rfl] at q4 ⊢
      exact e.rt (back none h4.ef) gg (.bl false) q4
    | false =>
      rw [if_neg Bool.false_ne_true] at q4 ⊢
      obtain ⟨e4, q4⟩ := q4
      obtain ⟨q, xs, e5, no, e6⟩ := fr j hj
      have hp4 : H4 p = some (.lst vs) := h4.eb _ _ (g4.ex _ _ upd_same)
      obtain ⟨d6, e7, r7⟩ := rl.get' e5
      rw [e6] at e7
      cases e7
      cases r7 with
      | @lst _ us _ eq7 rr7 =>
        have hq1 : B4 q = some (.lst us) := g4.ex _ _ (g2.ex _ _ eq7)
        have hlen : i < σ.length := by rw [h1.len]; exact hi
        refine ⟨p, vs, q, us, List.getElem?_set_self hlen, hp4, e5, h4.eb _ _ hq1, i3.run h4 q4 fun y H5 B5 ρ5 d5 h5 g5 ry q5 => ?_⟩
        refine ⟨us, h5.eb _ _ (g5.ex _ _ hq1), by rw [rr7.length]; exact q5.1 xs e6, ?_⟩
        have nq : H q = none := by
          cases z : H q with
          | none => rfl
          | some o => exact absurd (by rw [z]; exact fun y => nomatch y) no
        exact i4.run (back _ fun a o ea => by
          rw [upd_ne (fun z => by rw [z, nq] at ea; cases ea)]
          exact h5.ef a o ea) q5.2 (e.mono gg)
theorem Free.set {σ : L2.St} {ρ : DEnv} {p : Addr} (f : Free σ ρ p) {i : Nat} {v : V} {s : Sl} (h : s.own = true → v ≠ .ref p) : Free (σ.set i (some v)) (ρ.set i s) p := fun j t e so e2 => by
  rcases getElem?_set_cases e with ⟨rfl, rfl⟩ | ⟨ne, e⟩
  · rcases getElem?_set_cases e2 with ⟨_, z⟩ | ⟨n, _⟩
    · exact h so (Option.some.inj z).symm
    · exact n rfl
  · rw [List.getElem?_set_ne ne] at e2
    exact f j t e so e2
def dParL (i j : Nat) (a : DE) (b : DA) : DS := fun D ρ => a ρ fun x ρ1 => b ρ1 fun xs ρ2 => D.nx ((ρ2.set i (.d x)).set j (.l xs))
instance (priority := high) semParL (i j : Nat) (Ta Tb : TE) (a : DE) (b : DA) [i1 : SemE Ta a] [i2 : SemN Tb b] : SemS (tPar i j (tCons Ta (tCons Tb tNil))) (dParL i j a b) where
  run := fun h q e => i1.run h q fun x H1 B1 ρ1 d h1 g1 rx q1 => i2.run h1 q1 fun p vs ds H2 B2 ρ2 h2 g2 hp rl nb nf no fr q2 =>
    ⟨x, .ref p, rfl, e.nx ((h2.set_d (rx.up g2.ex)).set (s := .l ds) ⟨p, vs, rfl, hp, rl, nb, nf, no⟩ fun _ q e => by cases e; exact fr.set (fun z => nomatch z)) (g1.trans g2) q2⟩
def dParLL (i j : Nat) (a : DA) : DS := fun D ρ => a ρ fun xs ρ1 => D.nx ((ρ1.set i (.l xs)).set j (.l []))
instance (priority := high + 1) semParLL (i j : Nat) (Ta : TE) (a : DA) [i1 : SemN Ta a] : SemS (tPar i j (tCons Ta (tCons (tLst tNil) tNil))) (dParLL i j a) where
  run := fun h q e => i1.run h q fun p vs ds H1 B1 ρ1 h1 g1 hp rl nb nf no fr q1 => ⟨Nat.zero_le _, fun p2 hp2 => ⟨.ref p, .ref p2, rfl, by
    have ne : p ≠ p2 := fun z => by rw [z, hp2] at hp; cases hp
    have h2 := h1.newO (o := .lst []) hp2
    have hp' : upd H1 p2 (.lst []) p = some (.lst vs) := by rw [upd_ne ne]; exact hp
    have h3 := h2.set (i := i) (s := .l ds) ⟨p, vs, rfl, hp', rl, nb, nf, no⟩ fun _ q e => by cases e; exact fr
    have f2 := (h1.free_new hp2).set (i := i) (v := .ref p) (s := .l ds) fun _ z => by cases z; exact ne rfl
    exact e.nx (h3.set (i := j) (s := .l []) ⟨p2, [], rfl, upd_same, .nil, h1.eb.free hp2, h1.ef.free hp2, fun o => h1.od p2 o hp2⟩ fun _ q e => by cases e; exact f2) g1 q1⟩⟩
section
theorem dParL_ap (i j : Nat) (a : DE) (b : DA) : ∀ D ρ, dParL i j a b D ρ = (a ρ fun x ρ1 => b ρ1 fun xs ρ2 => D.nx ((ρ2.set i (.d x)).set j (.l xs))) := fun _ _ => rfl
theorem dParLL_ap (i j : Nat) (a : DA) : ∀ D ρ, dParLL i j a D ρ = (a ρ fun xs ρ1 => D.nx ((ρ1.set i (.l xs)).set j (.l []))) := fun _ _ => rfl
theorem dIns_ap (i : Nat) (a b : DE) : ∀ D ρ, dIns i a b D ρ = (ownL ρ[i]? = true ∧ a ρ fun k ρ1 => b ρ1 fun y ρ2 => match k, ρ2[i]? with
  | .int j, some (.l xs) => xs.length < sizeLine ∧ 0 ≤ j ∧ j < 2 ^ 63 ∧ D.nx (ρ2.set i (.l (xs.take j.toNat ++ [y] ++ xs.drop j.toNat)))
  | _, _ => False) := fun _ _ => rfl
theorem dUp_ap (a : DE) : ∀ ρ Q, dUp a ρ Q = (a ρ fun x ρ1 => match x with
  | .str z => z.length ≤ 5592405 ∧ Q (.str (Txt.upper z)) ρ1
  | _ => False) := fun _ _ => rfl
theorem dSpoil_ap (i j : Nat) (frs : List Bool) (tl : DA) (c : DT) (te : DE) (u : DS) : ∀ D ρ, dSpoil i j frs tl c te u D ρ = (frs[j]? = some true ∧ tl (ρ.map clS) fun ds ρ1 => ds.length ≤ sizeLine ∧ i < ρ1.length ∧
  c (ρ1.set i (.d (.list ds))) fun b ρ2 => if b = true then D.rt (.bool false) ((ρ.map gvS).set i .no) else ρ2[i]? = some (.d (.list ds)) ∧ te ρ2 fun _ _ => (∀ xs, ds[j]? = some (.list xs) → xs.length < sizeLine) ∧ u D ((ρ.map gvS).set i .no)) := fun _ _ => rfl
theorem clS_no : clS .no = .no := rfl
theorem clS_d (x : PyData) : clS (.d x) = .d x := rfl
theorem clS_l (x : List PyData) : clS (.l x) = .d (.list x) := rfl
theorem clS_g (x : List PyData) : clS (.g x) = .no := rfl
theorem clS_v (a : Addr) (u : Option (Obj × List V)) : clS (.v a u) = .v a u := rfl
theorem gvS_no : gvS .no = .no := rfl
theorem gvS_d (x : PyData) : gvS (.d x) = .d x := rfl
theorem gvS_l (x : List PyData) : gvS (.l x) = .d (.list x) := rfl
theorem gvS_g (x : List PyData) : gvS (.g x) = .g x := rfl
theorem gvS_v (a : Addr) (u : Option (Obj × List V)) : gvS (.v a u) = .v a u := rfl
end
end DL

namespace DL
open PySem PySem.Spec PyProof.Rows L2
def lay (v : PyData) : Prop := v.canLay0 = true ∧ v.depth ≤ 40
theorem eq_nil {xs : List PyData} {Q : PyData → Prop} (h : ∀ d ∈ xs, lay d) (q : Q (.bool xs.isEmpty)) : dEq (.list xs) (.list []) Q :=
  ⟨.inl ⟨shaped_list (n := 40) h (by decide), shaped_flats (by simp)⟩, by rw [eqv_nil]; exact q⟩
theorem ne_nil {xs : List PyData} {Q : PyData → Prop} (h : ∀ d ∈ xs, lay d) (q : Q (.bool (!xs.isEmpty))) : dNe (.list xs) (.list []) Q :=
  ⟨.inl ⟨shaped_list (n := 40) h (by decide), shaped_flats (by simp)⟩, by rw [eqv_nil]; exact q⟩
theorem eq_str {a b : Str} {Q : PyData → Prop} (q : Q (.bool (decide (a = b)))) : dEq (.str a) (.str b) Q := ⟨.inr ⟨_, _, rfl, rfl⟩, by rw [eqv_strs]; exact q⟩
theorem ne_str {a b : Str} {Q : PyData → Prop} (q : Q (.bool (!decide (a = b)))) : dNe (.str a) (.str b) Q := ⟨.inr ⟨_, _, rfl, rfl⟩, by rw [eqv_strs]; exact q⟩
theorem all_map {xs : List PyData} {f : PyData → Bool} {Q : PyData → Prop} (q : Q (.bool (xs.all f))) : dAll [.list (xs.map fun x => .bool (f x))] Q :=
  ⟨xs.map f, by rw [List.map_map]; rfl, by rw [List.all_map]; exact q⟩
theorem any_map {xs : List PyData} {f : PyData → Bool} {Q : PyData → Prop} (q : Q (.bool (xs.any f))) : dAnyL [.list (xs.map fun x => .bool (f x))] Q :=
  ⟨xs.map f, by rw [List.map_map]; rfl, by rw [List.any_map]; exact q⟩
theorem filter_true (xs : List PyData) : xs.filter (fun _ => true) = xs := List.filter_eq_self.mpr fun _ _ => rfl
theorem lc_map {i : Nat} {te : DE} (g : PyData → PyData) {ρ : DEnv} (hk : Kept ρ i) {Q : List PyData → DEnv → Prop} (xs : List PyData)
    (he : ∀ x ∈ xs, ∀ Q' : PyData → DEnv → Prop, Q' (g x) (ρ.set i (.d x)) → te (ρ.set i (.d x)) Q') (hl : xs.length ≤ 16000000) (q : Q (xs.map g) ρ) : lcGo (gSet i) dYes te [i] xs [] ρ Q :=
  lc_run (fun _ => true) g hk xs [] (fun x hx Q' q' => q') (fun x hx _ Q' q' => he x hx Q' q') (by simpa using hl) (by rw [filter_true]; exact q)
theorem lc_mapA {i : Nat} {te : DE} (g : PyData → PyData) {ρ : DEnv} {Q : List PyData → DEnv → Prop} (xs : List PyData)
    (he : ∀ x ∈ xs, ∀ Q' : PyData → DEnv → Prop, Q' (g x) (ρ.set i (.d x)) → te (ρ.set i (.d x)) Q') (hl : xs.length ≤ 16000000) (q : ∀ s, Q (xs.map g) (ρ.set i s)) : lcGo (gSet i) dYes te [i] xs [] ρ Q :=
  lc_fun (fun _ => true) g xs (fun x hx Q' q' => q') (fun x hx _ Q' q' => he x hx Q' q') hl (fun s => by rw [filter_true]; exact q s)
theorem lc_filter {i : Nat} {tt : DT} {te : DE} (f : PyData → Bool) {ρ : DEnv} (hk : Kept ρ i) {Q : List PyData → DEnv → Prop} (xs : List PyData)
    (ht : ∀ x ∈ xs, ∀ Q' : Bool → DEnv → Prop, Q' (f x) (ρ.set i (.d x)) → tt (ρ.set i (.d x)) Q') (he : ∀ x ∈ xs, ∀ Q' : PyData → DEnv → Prop, Q' x (ρ.set i (.d x)) → te (ρ.set i (.d x)) Q') (hl : xs.length ≤ 16000000) (q : Q (xs.filter f) ρ) : lcGo (gSet i) tt te [i] xs [] ρ Q :=
  lc_run f id hk xs [] ht (fun x hx _ Q' q' => he x hx Q' q') (by simpa using hl) (by rw [List.map_id]; exact q)
theorem lc_filterA {i : Nat} {tt : DT} {te : DE} (f : PyData → Bool) {ρ : DEnv} {Q : List PyData → DEnv → Prop} (xs : List PyData)
    (ht : ∀ x ∈ xs, ∀ Q' : Bool → DEnv → Prop, Q' (f x) (ρ.set i (.d x)) → tt (ρ.set i (.d x)) Q') (he : ∀ x ∈ xs, ∀ Q' : PyData → DEnv → Prop, Q' x (ρ.set i (.d x)) → te (ρ.set i (.d x)) Q') (hl : xs.length ≤ 16000000) (q : ∀ s, Q (xs.filter f) (ρ.set i s)) : lcGo (gSet i) tt te [i] xs [] ρ Q :=
  lc_fun f id xs ht (fun x hx _ Q' q' => he x hx Q' q') hl (fun s => by rw [List.map_id]; exact q s)
structure GW (d w : Nat) (v : PyData) : Prop where
  c : v.canLay0 = true
  s : v.showable = true
  l : v.leavesShort 600 = true
  d : v.depth ≤ d
  w : v.weight ≤ w
structure GWs (d w : Nat) (xs : List PyData) : Prop where
  c : PyData.canLayAll0 xs = true
  s : PyData.showableAll xs = true
  l : PyData.leavesShortAll 600 xs = true
  d : PyData.depthAll xs ≤ d
  w : PyData.weightAll xs ≤ w
theorem GW.le {d w d' w' : Nat} {v : PyData} (h : GW d w v) (hd : d ≤ d') (hw : w ≤ w') : GW d' w' v := ⟨h.c, h.s, h.l, Nat.le_trans h.d hd, Nat.le_trans h.w hw⟩
theorem GWs.le {d w d' w' : Nat} {v : List PyData} (h : GWs d w v) (hd : d ≤ d') (hw : w ≤ w') : GWs d' w' v := ⟨h.c, h.s, h.l, Nat.le_trans h.d hd, Nat.le_trans h.w hw⟩
theorem GWs.nil {d w : Nat} : GWs d w [] := ⟨by simp [PyData.canLayAll0], by simp [PyData.showableAll], by simp [PyData.leavesShortAll], by simp [PyData.depthAll], by simp [PyData.weightAll]⟩
theorem GWs.cons {d a b : Nat} {x : PyData} {xs : List PyData} (h : GW d a x) (hs : GWs d b xs) : GWs d (a + b + 1) (x :: xs) := by
  obtain ⟨h1, h2, h3, h4, h5⟩ := h
  obtain ⟨k1, k2, k3, k4, k5⟩ := hs
  refine ⟨by simp [PyData.canLayAll0, h1, k1], by simp [PyData.showableAll, h2, k2], by simp [PyData.leavesShortAll, h3, k3], ?_, ?_⟩
  · simp only [PyData.depthAll]; omega
  · simp only [PyData.weightAll]; omega
theorem GWs.all {d a : Nat} : ∀ {xs : List PyData}, (∀ x ∈ xs, GW d a x) → GWs d ((a + 1) * xs.length) xs
  | [], _ => .nil
  | x :: xs, h => (GWs.cons (h x List.mem_cons_self) (GWs.all fun y hy => h y (List.mem_cons_of_mem _ hy))).le (Nat.le_refl _) (by simp only [List.length_cons, Nat.mul_succ]; omega)
theorem GWs.append {d a b : Nat} : ∀ {xs ys : List PyData}, GWs d a xs → GWs d b ys → GWs d (a + b) (xs ++ ys)
  | [], _, _, h => h.le (Nat.le_refl _) (by omega)
  | x :: xs, ys, h, k => by
    obtain ⟨h1, h2, h3, h4, h5⟩ := h
    simp only [PyData.canLayAll0, PyData.showableAll, PyData.leavesShortAll, PyData.depthAll, PyData.weightAll, Bool.and_eq_true] at h1 h2 h3 h4 h5
    have hx : GW d x.weight x := ⟨h1.1, h2.1, h3.1, by omega, Nat.le_refl _⟩
    have hs : GWs d (PyData.weightAll xs) xs := ⟨h1.2, h2.2, h3.2, by omega, Nat.le_refl _⟩
    exact (GWs.cons hx (GWs.append hs k)).le (Nat.le_refl _) (by omega)
theorem GW.list {d w : Nat} {xs : List PyData} (h : GWs d w xs) : GW (d + 1) (w + 1) (.list xs) := by
  obtain ⟨h1, h2, h3, h4, h5⟩ := h
  refine ⟨by simpa [PyData.canLay0] using h1, by simpa [PyData.showable] using h2, by simpa [PyData.leavesShort] using h3, ?_, ?_⟩
  · simp only [PyData.depth]; omega
  · simp only [PyData.weight]; omega
theorem GW.tuple {d w : Nat} {xs : List PyData} (h : GWs d w xs) : GW (d + 1) (w + 1) (.tuple xs) := by
  obtain ⟨h1, h2, h3, h4, h5⟩ := h
  refine ⟨by simpa [PyData.canLay0] using h1, by simpa [PyData.showable] using h2, by simpa [PyData.leavesShort] using h3, ?_, ?_⟩
  · simp only [PyData.depth]; omega
  · simp only [PyData.weight]; omega
theorem GW.atom {v : PyData} (h : atomB v = true) : GW 0 200 v := by
  obtain ⟨⟨⟨a1, a2⟩, a3⟩, a4⟩ := atomB_iff.mp h
  obtain ⟨a5, a6⟩ := flat_lay a1
  exact ⟨a5, a2, a3, a6, a4⟩
theorem GW.str {z : Str} (h : PyData.strOk z = true) (hl : z.length ≤ 200) : GW 0 z.length (.str z) := by
  have := GW.atom (atom_str h hl)
  exact ⟨this.c, this.s, this.l, this.d, by simp only [PyData.weight]; exact Nat.le_refl _⟩
theorem GW.good {d w : Nat} {v : PyData} (h : GW d w v) (hd : d ≤ 10) (hw : w ≤ 20000) : goodB v = true := goodB_iff.mpr ⟨⟨⟨⟨h.c, h.s⟩, h.l⟩, Nat.le_trans h.d hd⟩, Nat.le_trans h.w hw⟩
theorem GW.of {v : PyData} (h : goodB v = true) : GW 10 20000 v := by
  obtain ⟨⟨⟨⟨a, b⟩, c⟩, d⟩, e⟩ := goodB_iff.mp h
  exact ⟨a, b, c, d, e⟩
theorem GW.lay {d w : Nat} {v : PyData} (h : GW d w v) (hd : d ≤ 40) : lay v := ⟨h.c, Nat.le_trans h.d hd⟩
theorem GWs.mem {d w : Nat} {x : PyData} : ∀ {xs : List PyData}, GWs d w xs → x ∈ xs → GW d w x
  | y :: ys, ⟨h1, h2, h3, h4, h5⟩, hx => by
    simp only [PyData.canLayAll0, PyData.showableAll, PyData.leavesShortAll, PyData.depthAll, PyData.weightAll, Bool.and_eq_true] at h1 h2 h3 h4 h5
    rcases List.mem_cons.mp hx with rfl | hx
    · exact ⟨h1.1, h2.1, h3.1, by omega, by omega⟩
    · exact GWs.mem ⟨h1.2, h2.2, h3.2, by omega, by omega⟩ hx
theorem GW.items {d w : Nat} {xs : List PyData} (h : GW d w (.list xs)) : GWs d w xs := by
  obtain ⟨h1, h2, h3, h4, h5⟩ := h
  simp only [PyData.canLay0, PyData.showable, PyData.leavesShort, PyData.depth, PyData.weight] at h1 h2 h3 h4 h5
  exact ⟨h1, h2, h3, by omega, by omega⟩
theorem GW.len {d w : Nat} {xs : List PyData} (h : GW d w (.list xs)) : xs.length ≤ w := Nat.le_trans (len_weight xs) (by have := h.w; simp only [PyData.weight] at this; omega)
theorem GW.strOk {d w : Nat} {z : Str} (h : GW d w (.str z)) : PyData.strOk z = true ∧ z.length ≤ w := ⟨by simpa [PyData.canLay0] using h.c, by have := h.w; simp only [PyData.weight] at this; exact this⟩
theorem good_reprD {v : PyData} (h : good v) : reprOk v := good_rep h
theorem gdTup_t (n : Nat) (gs : DGs) (xs : List PyData) (ρ : DEnv) (Q : DEnv → Prop) : gdTup n gs (.tuple xs) ρ Q = (xs.length = n ∧ gs xs ρ Q) := rfl
theorem gdCons_c (g : DG) (gs : DGs) (x : PyData) (xs : List PyData) (ρ : DEnv) (Q : DEnv → Prop) : gdCons g gs (x :: xs) ρ Q = g x ρ fun ρ1 => gs xs ρ1 Q := rfl
theorem gdNil_n (ρ : DEnv) (Q : DEnv → Prop) : gdNil [] ρ Q = Q ρ := rfl
theorem dAll_b (bs : List Bool) (Q : PyData → Prop) (q : Q (.bool (bs.all id))) : dAll [.list (bs.map .bool)] Q := ⟨bs, rfl, q⟩
theorem enum_pair (xs : List PyData) : enumD xs = ((List.range xs.length).map fun (i : Nat) => (PyData.int (i : Int), xs.getD i .none)).map fun p => .tuple [p.1, p.2] := by
  unfold enumD
  rw [List.map_map]
  rfl
/-- a comprehension over enumerate -/
theorem lc_enum {i j : Nat} {te : DE} (g : Nat → PyData → PyData) {ρ : DEnv} (hij : i ≠ j) (hi : Kept ρ i) (hj : Kept ρ j) {Q : List PyData → DEnv → Prop} (xs : List PyData)
    (he : ∀ k : Nat, k < xs.length → ∀ Q' : PyData → DEnv → Prop, Q' (g k (xs.getD k .none)) ((ρ.set i (.d (.int (k : Int)))).set j (.d (xs.getD k .none))) → te ((ρ.set i (.d (.int (k : Int)))).set j (.d (xs.getD k .none))) Q') (hl : xs.length ≤ 16000000)
    (q : Q ((List.range xs.length).map fun k => g k (xs.getD k .none)) ρ) : lcGo (gdTup 2 (gdCons (gSet i) (gdCons (gSet j) gdNil))) dYes te [i, j] (enumD xs) [] ρ Q := by
  rw [enum_pair]
  refine lc_pair (fun x y => match x with
    | .int k => g k.toNat y
    | _ => .none) hij hi hj _ [] (fun p hp Q' q' => ?_) (by simpa using hl) ?_
  · obtain ⟨k, hk, rfl⟩ := List.mem_map.mp hp
    exact he k (List.mem_range.mp hk) Q' q'
  · rw [List.nil_append, List.map_map]
    exact q
theorem dTupC_l (xs : List PyData) (Q : PyData → Prop) : dTupC [.list xs] Q = Q (.tuple xs) := rfl
theorem dTupC_t (xs : List PyData) (Q : PyData → Prop) : dTupC [.tuple xs] Q = Q (.tuple xs) := rfl
theorem dList_l (xs : List PyData) (Q : List PyData → Prop) : dList [.list xs] Q = Q xs := rfl
theorem dList_t (xs : List PyData) (Q : List PyData → Prop) : dList [.tuple xs] Q = Q xs := rfl
theorem GW.gd {d w : Nat} {v : PyData} (h : GW d w v) (hd : d ≤ 10 := by decide) (hw : w ≤ 20000 := by omega) : DL.good v := .inl (h.good hd hw)
theorem GWs.one {d w : Nat} {v : PyData} (h : GW d w v) : GWs d (w + 1) [v] := (GWs.cons h GWs.nil (b := 0)).le (Nat.le_refl _) (by omega)
theorem GW.dd {d e w : Nat} {v : PyData} (h : GW d w v) (he : d ≤ e := by decide) : GW e w v := h.le he (Nat.le_refl _)
theorem GWs.dd {d e w : Nat} {v : List PyData} (h : GWs d w v) (he : d ≤ e := by decide) : GWs e w v := h.le he (Nat.le_refl _)
end DL

namespace DL
open PySem PySem.Spec PyProof.Rows L2

def lc2Go (g : DG) (tt : DT) (a1 : DA) (g1 : DG) (tt1 : DT) (te : DE) (vs vs1 : List Nat) : List PyData → List PyData → DEnv → (List PyData → DEnv → Prop) → Prop
  | [], acc, ρ, Q => Q acc ρ
  | x :: xs, acc, ρ, Q => g x (wipeD ρ vs) fun ρ1 => tt ρ1 fun b ρ2 => if b = true then a1 ρ2 fun ds1 ρ3 => lcGo g1 tt1 te vs1 ds1 acc ρ3 fun acc' ρ4 => lc2Go g tt a1 g1 tt1 te vs vs1 xs acc' (backD ρ ρ4 vs) Q
      else lc2Go g tt a1 g1 tt1 te vs vs1 xs acc (backD ρ ρ2 vs) Q
def dLc2 (a : DA) (g : DG) (tt : DT) (a1 : DA) (g1 : DG) (tt1 : DT) (te : DE) (vs vs1 : List Nat) : DA := fun ρ Q => a ρ fun ds ρ1 => lc2Go g tt a1 g1 tt1 te vs vs1 ds [] ρ1 Q
theorem Free.back {σ σ2 : L2.St} {ρ ρ2 : DEnv} {p : Addr} {vs : List Nat} (f : Free σ2 ρ2 p) (hs : ∀ j, j ∉ vs → σ2[j]? = σ[j]?) : Free σ (backD ρ ρ2 vs) p := fun i s e so => by
  rcases backD_in e with ⟨_, e'⟩ | ⟨nj, e'⟩
  · rcases e' with rfl | ⟨t, _, rfl⟩
    · cases so
    · cases t <;> cases so
  · rw [← hs i nj]
    exact f i s e' so
instance semLc2 (Wi : TI) (G : TG) (Tt : TT) (Wi1 : TI) (G1 : TG) (Tt1 : TT) (Te : TE) (vs vs1 : List Nat) (a : DA) (g : DG) (sl : List Nat) (tt : DT) (a1 : DA) (g1 : DG) (sl1 : List Nat) (tt1 : DT) (te : DE)
    [i1 : SemI Wi a] [i2 : SemG G g sl] [i3 : SemT Tt tt] [i4 : SemI Wi1 a1] [i5 : SemG G1 g1 sl1] [i6 : SemT Tt1 tt1] [i7 : SemE Te te] [i8 : SubL sl vs] [i9 : SubL sl1 vs1] : SemN (tLc2 Wi G Tt Wi1 G1 Tt1 Te vs vs1) (dLc2 a g tt a1 g1 tt1 te vs vs1) where
  run := by
    intro O F B H σ ρ Q Q' h q k
    refine i1.run h q fun J H1 B1 ρ1 ds h1 g1' jw q1 => ?_
    intro D hD
    have nb1 : B1 D = none := h1.eb.free hD
    have nf : F D = none := h1.ef.free hD
    have no : ¬ O D := fun o => h1.od D o hD
    refine ⟨fun i m H' => m = ds.length - i ∧ i ≤ ds.length ∧ ∃ B' ρ' vs' acc, R O F B' H' σ ρ' ∧ Gr O B1 B' ∧ H' D = some (.lst vs') ∧ RpL B' vs' acc ∧ B' D = none ∧ Free σ ρ' D ∧ lc2Go g tt a1 g1 tt1 te vs vs1 (ds.drop i) acc ρ' Q,
      ⟨_, rfl, Nat.zero_le _, B1, ρ1, [], [], h1.newO hD, .refl, upd_same, .nil, nb1, h1.free_new hD, q1⟩, ?_⟩
    rintro i m H' ⟨rfl, hi, B2, ρ2, vs', acc, h2, g2, hD2, ra, nb2, fr2, q2⟩
    by_cases hl : i < ds.length
    · have dr : ∀ d, ds[i]? = some d → ds.drop i = d :: ds.drop (i + 1) := fun d ed => by
        rw [List.getElem?_eq_getElem hl] at ed
        rw [List.drop_eq_getElem_cons hl, Option.some.inj ed]
      refine .inr ⟨jw.go i H' hl (g2.ex.trans h2.eb), fun H3 => ∃ B' ρ' vs' acc, R O F B' H3 σ ρ' ∧ Gr O B1 B' ∧ H3 D = some (.lst vs') ∧ RpL B' vs' acc ∧ B' D = none ∧ Free σ ρ' D ∧ lc2Go g tt a1 g1 tt1 te vs vs1 (ds.drop (i + 1)) acc ρ' Q,
        fun H3 hx => ⟨ds.length - (i + 1), by omega, rfl, hl, hx⟩, fun x H3 y => ?_⟩
      obtain ⟨ey, d, ed, mk⟩ := jw.yld i H' x H3 hl (g2.ex.trans h2.eb) y
      rw [dr d ed] at q2
      have q2 : g d (wipeD ρ2 vs) _ := q2
      obtain ⟨B3, h3, g3, r3⟩ := mk (h2.guard hD2 fr2) g2.ex
      have hn3 : ∀ {B0 B4 : Hp} {H4 : Hp} {σ4 : L2.St} {ρ4 : DEnv} {vs' : List V}, B0 D = none → R (fun p => O p ∨ p = D) (upd F D (.lst vs')) B4 H4 σ4 ρ4 → Gr (fun p => O p ∨ p = D) B0 B4 → H4 D = some (.lst vs') ∧ B4 D = none ∧ Gr O B0 B4 := fun {B0 B4 H4 σ4 ρ4 vs'} nb r g => by
        have e4 : H4 D = some (.lst vs') := r.ef D _ upd_same
        refine ⟨e4, ?_, ⟨g.ex, fun p hp => g.ag p (.inl hp)⟩⟩
        rcases g.ag D (.inr rfl) with z | ⟨xs, z⟩
        · rw [z]; exact nb
        · have := r.eb D _ z
          rw [e4] at this; cases this
      have same : ∀ {H5 : Hp} {vs' : List V}, H5 D = some (.lst vs') → upd H5 D (.lst vs') = H5 := fun {H5 vs'} e5 => funext fun b => by
        by_cases z : b = D
        · rw [z, upd_same, e5]
        · rw [upd_ne z]
      refine i2.run (h3.wipe vs) r3 q2 fun σ4 H4 B4 ρ4 h4 g4 w4 q4 => ?_
      have w5 : ∀ j, j ∉ vs → σ4[j]? = σ[j]? := fun j hj => (w4.at_ j fun z => hj (i8.sub j z)).trans (wipe_get hj)
      have l4 : σ4.length = σ.length := by rw [w4.len, wipe_length]
      refine ⟨wipe_eq l4 w5, i3.run h4 q4 fun b H5 B5 ρ5 h5 g5 q5 => ?_⟩
      obtain ⟨e5, n5, g6⟩ := hn3 nb2 h5 ((g3.trans g4).trans g5)
      obtain ⟨h50, f50⟩ := h5.unguard (o' := .lst vs') nf n5 (fun _ _ z => nomatch z)
      rw [same e5] at h50
      cases b with
      | false =>
        rw [if_neg Bool.false_ne_true] at q5 ⊢
        exact ⟨_, _, vs', acc, h2.back h50 g6.ex l4 w5, g2.trans g6, e5, ra.up g6.ex, n5, f50.back w5, q5⟩
      | true =>
        rw [if_pos rfl] at q5 ⊢
        -- the inner walk
        refine i4.run h5 q5 fun J1 H6 B6 ρ6 ds1 h6 g7 jw1 q6 => ?_
        obtain ⟨e6, n6, g8⟩ := hn3 nb2 h6 (((g3.trans g4).trans g5).trans g7)
        obtain ⟨h60, f60⟩ := h6.unguard (o' := .lst vs') nf n6 (fun _ _ z => nomatch z)
        rw [same e6] at h60
        refine ⟨fun j k H' => k = ds1.length - j ∧ j ≤ ds1.length ∧ ∃ B' ρ' vs' acc, R O F B' H' σ4 ρ' ∧ Gr O B2 B' ∧ Ex B6 B' ∧ H' D = some (.lst vs') ∧ RpL B' vs' acc ∧ B' D = none ∧ Free σ4 ρ' D ∧
          lcGo g1 tt1 te vs1 (ds1.drop j) acc ρ' fun acc' ρ4 => lc2Go g tt a1 g1 tt1 te vs vs1 (ds.drop (i + 1)) acc' (backD ρ2 ρ4 vs) Q,
          ⟨_, rfl, Nat.zero_le _, B6, ρ6, vs', acc, h60, g8, Ex.refl _, e6, ra.up g8.ex, n6, f60, q6⟩, ?_⟩
        rintro j k H7 ⟨rfl, hj, B7, ρ7, vs7, acc7, h7, g9, x9, hD7, ra7, nb7, fr7, q7⟩
        by_cases hl1 : j < ds1.length
        · have dr1 : ∀ d, ds1[j]? = some d → ds1.drop j = d :: ds1.drop (j + 1) := fun d ed => by
            rw [List.getElem?_eq_getElem hl1] at ed
            rw [List.drop_eq_getElem_cons hl1, Option.some.inj ed]
          refine .inr ⟨jw1.go j H7 hl1 (x9.trans h7.eb), fun H8 => ∃ B' ρ' vs' acc, R O F B' H8 σ4 ρ' ∧ Gr O B2 B' ∧ Ex B6 B' ∧ H8 D = some (.lst vs') ∧ RpL B' vs' acc ∧ B' D = none ∧ Free σ4 ρ' D ∧
            lcGo g1 tt1 te vs1 (ds1.drop (j + 1)) acc ρ' fun acc' ρ4 => lc2Go g tt a1 g1 tt1 te vs vs1 (ds.drop (i + 1)) acc' (backD ρ2 ρ4 vs) Q,
            fun H8 hx => ⟨ds1.length - (j + 1), by omega, rfl, hl1, hx⟩, fun x1 H8 y1 => ?_⟩
          obtain ⟨ey1, d1, ed1, mk1⟩ := jw1.yld j H7 x1 H8 hl1 (x9.trans h7.eb) y1
          rw [dr1 d1 ed1] at q7
          obtain ⟨hz, q7⟩ := q7
          obtain ⟨B8, h8, g10, r8⟩ := mk1 (h7.guard hD7 fr7) x9
          refine i5.run (h8.wipe vs1) r8 q7 fun σ9 H9 B9 ρ9 h9 g11 w9 q9 => ?_
          have w10 : ∀ j, j ∉ vs1 → σ9[j]? = σ4[j]? := fun j hj => (w9.at_ j fun z => hj (i9.sub j z)).trans (wipe_get hj)
          have l9 : σ9.length = σ4.length := by rw [w9.len, wipe_length]
          refine ⟨wipe_eq l9 w10, i6.run h9 q9 fun b H10 B10 ρ10 h10 g12 q10 => ?_⟩
          cases b with
          | false =>
            rw [if_neg Bool.false_ne_true] at q10 ⊢
            obtain ⟨e10, n10, g13⟩ := hn3 nb7 h10 ((g10.trans g11).trans g12)
            obtain ⟨h11, f11⟩ := h10.unguard (o' := .lst vs7) nf n10 (fun _ _ z => nomatch z)
            rw [same e10] at h11
            exact ⟨_, _, vs7, acc7, h7.back h11 g13.ex l9 w10, g9.trans g13, x9.trans g13.ex, e10, ra7.up g13.ex, n10, f11.back w10, q10⟩
          | true =>
            rw [if_pos rfl] at q10 ⊢
            refine i7.run h10 q10 fun yv H11 B11 ρ11 d11 h11 g13 r11 q11 => ?_
            obtain ⟨e11, n11, g14⟩ := hn3 nb7 h11 (((g10.trans g11).trans g12).trans g13)
            obtain ⟨h12, f12⟩ := h11.unguard (o' := .lst vs7) nf n11 (fun _ _ z => nomatch z)
            rw [same e11] at h12
            have h13 := h7.back h12 g14.ex l9 w10
            have f13 := f12.back (ρ := ρ7) w10
            have h14 := h13.guard e11 f13
            obtain ⟨h15, f15⟩ := h14.unguard (o' := .lst (vs7 ++ [yv])) nf n11 (fun _ _ z => nomatch z)
            exact ⟨vs7, e11, by rw [ra7.length]; exact hz, _, _, vs7 ++ [yv], acc7 ++ [d11], h15, g9.trans g14, x9.trans g14.ex, upd_same, (ra7.up g14.ex).append (.one r11), n11, f15, q11⟩
        · have hd1 : ds1.drop j = [] := List.drop_eq_nil_of_le (by omega)
          have he1 : j = ds1.length := by omega
          rw [hd1] at q7
          subst he1
          exact .inl ⟨jw1.stop H7 (x9.trans h7.eb), _, _, vs7, acc7, h2.back h7 g9.ex l4 w5, g2.trans g9, hD7, ra7, nb7, fr7.back w5, q7⟩
    · have hd : ds.drop i = [] := List.drop_eq_nil_of_le (by omega)
      have he : i = ds.length := by omega
      rw [hd] at q2
      subst he
      exact .inl ⟨jw.stop H' (g2.ex.trans h2.eb), k D vs' acc H' B2 ρ2 h2 (g1'.trans g2) hD2 ra nb2 nf no fr2 q2⟩
theorem pe_lc2D {X : Cx} {elt tg iter tg1 iter1 : Expr} {ifs ifs1 : List Expr} {scope : Scope} {own : List (Str × Nat)} {vs vs1 : List Nat} {pos : Pos} {wi wi1 : TI} {g g1 : TG} {tt tt1 : TT} {te : TE} (hv : own.map (·.2) = vs) (hv1 : ∀ i ∈ vs1, i ∈ own.map (·.2)) (hc : X.calm = true) (hN : X.N.Nodup) (hi : PI X tg iter wi) (ok : BlkOk X.N X.env.scope scope own)
    (hg : ∀ (s : Shared) (H : Hp) (C : Addr) (cl : List (Str × Addr)) (fp : List Addr), PG (X.blk s H scope (compEnvC scope cl C X.env) fp) tg g) (ht : ∀ (s : Shared) (H : Hp) (C : Addr) (cl : List (Str × Addr)) (fp : List Addr), PTs (X.blk s H scope (compEnvC scope cl C X.env) fp) ifs tt)
    (hi1 : ∀ (s : Shared) (H : Hp) (C : Addr) (cl : List (Str × Addr)) (fp : List Addr), PI (X.blk s H scope (compEnvC scope cl C X.env) fp) tg1 iter1 wi1)
    (hg1 : ∀ (s : Shared) (H : Hp) (C : Addr) (cl : List (Str × Addr)) (fp : List Addr), PG (X.blk s H scope (compEnvC scope cl C X.env) fp) tg1 g1) (ht1 : ∀ (s : Shared) (H : Hp) (C : Addr) (cl : List (Str × Addr)) (fp : List Addr), PTs (X.blk s H scope (compEnvC scope cl C X.env) fp) ifs1 tt1)
    (he : ∀ (s : Shared) (H : Hp) (C : Addr) (cl : List (Str × Addr)) (fp : List Addr), PE (X.blk s H scope (compEnvC scope cl C X.env) fp) elt te) (hs : ∀ x, foldedSetIterable iter X.env x = pure x := by intro _; rfl) (hs1 : ∀ env x, foldedSetIterable iter1 env x = pure x := by intro _ _; rfl) :
    PE X (.ListComp elt [⟨tg, iter, ifs, 0⟩, ⟨tg1, iter1, ifs1, 0⟩] scope pos) (tLc2 wi g tt wi1 g1 tt1 te vs vs1) := by
  subst hv
  exact pe_lc2 hc hN hi ok hv1 hg ht hi1 hg1 ht1 he hs hs1
/-- .. by plain lists: a name each -/
theorem set_no {ρ : DEnv} {i : Nat} (h : ρ[i]? = some .no) : ρ.set i .no = ρ := set_self ρ i _ fun b e => by rw [h] at e; exact (Option.some.inj e).symm
theorem lc2_map {i j : Nat} {a1 : DA} {te : DE} (f : PyData → List PyData) (t : PyData → PyData → Bool) (g : PyData → PyData → PyData) {tt1 : DT} {ρ : DEnv} (hij : i ≠ j) (hi : ρ[i]? = some .no) (hj : ρ[j]? = some .no) {Q : List PyData → DEnv → Prop} : ∀ (xs acc : List PyData),
    (∀ x ∈ xs, ∀ Q' : List PyData → DEnv → Prop, Q' (f x) (ρ.set i (.d x)) → a1 (ρ.set i (.d x)) Q') →
    (∀ x ∈ xs, ∀ y ∈ f x, ∀ Q' : Bool → DEnv → Prop, Q' (t x y) ((ρ.set i (.d x)).set j (.d y)) → tt1 ((ρ.set i (.d x)).set j (.d y)) Q') →
    (∀ x ∈ xs, ∀ y ∈ f x, t x y = true → ∀ Q' : PyData → DEnv → Prop, Q' (g x y) ((ρ.set i (.d x)).set j (.d y)) → te ((ρ.set i (.d x)).set j (.d y)) Q') →
    acc.length + (xs.flatMap f).length ≤ 16000000 → Q (acc ++ xs.flatMap fun x => ((f x).filter (t x)).map (g x)) ρ → lc2Go (gSet i) dYes a1 (gSet j) tt1 te [i, j] [j] xs acc ρ Q
  | [], acc, _, _, _, _, q => by
    show Q acc ρ
    simpa using q
  | x :: xs, acc, ha, ht, he, hl, q => by
    have e0 : wipeD ρ [i, j] = ρ := by
      show (ρ.set j .no).set i .no = ρ
      rw [set_no hj, set_no hi]
    have e1 : backD ρ (ρ.set i (.d x)) [i, j] = ρ := by
      show List.set (List.set (ρ.set i (.d x)) j _) i _ = ρ
      rw [hi, hj]
      show List.set (List.set (ρ.set i (.d x)) j .no) i .no = ρ
      rw [List.set_comm _ _ (Ne.symm hij), List.set_set, set_no hi, set_no hj]
    have hj1 : (ρ.set i (.d x))[j]? = some .no := by rw [List.getElem?_set_ne hij]; exact hj
    show (gSet i) x (wipeD ρ [i, j]) _
    rw [e0]
    show a1 (ρ.set i (.d x)) _
    rw [List.flatMap_cons, List.length_append] at hl
    refine ha x List.mem_cons_self _ ?_
    refine lc_run (t x) (g x) (kept_no hj1) (f x) acc (fun y hy Q' q' => ht x List.mem_cons_self y hy Q' q') (fun y hy hty Q' q' => he x List.mem_cons_self y hy hty Q' q') (by omega) ?_
    rw [e1]
    refine lc2_map f t g hij hi hj xs _ (fun y hy => ha y (List.mem_cons_of_mem _ hy)) (fun y hy => ht y (List.mem_cons_of_mem _ hy)) (fun y hy => he y (List.mem_cons_of_mem _ hy)) ?_ ?_
    · have : (((f x).filter (t x)).map (g x)).length ≤ (f x).length := by rw [List.length_map]; exact List.length_filter_le _ _
      rw [List.length_append]; omega
    · rw [List.append_assoc]
      rw [List.flatMap_cons] at q
      exact q
def tPop (i : Nat) : TE := fun σ H Q => ∃ p xs y, σ[i]? = some (some (.ref p)) ∧ H p = some (.lst xs) ∧ xs[xs.length - 1]? = some y ∧ Q y (upd H p (.lst xs.dropLast))
section
variable {X : Cx}
theorem pe_popD {i : Nat} {x : Str} {px apos cpos : Pos} (ho : PE X (.Name x px) (tVar i)) (hbase : attributeBase (.Name x px) "pop" X.env (eval (.Name x px) X.env) = eval (.Name x px) X.env := by rfl) (hline : (apos.endLine == cpos.line) = true := by rfl) :
    PE X (.Call (.Attribute (.Name x px) "pop" apos) [] [] cpos) (tPop i) :=
  PE.of (pe_bm0 PySem.F.plainAttrs_list PySem.F.slot_list_pop PySem.F.type_list_pop mt_pop ho hbase hline)
    fun σ H Q ⟨p, xs, y, e1, e2, e3, q⟩ => ⟨.ref p, e1, .inl ⟨rfl, _, .inl (.inl e2)⟩, p, xs, y, rfl, rfl, e2, e3, q⟩
end
theorem RpL.dropLast {B : Hp} {vs : List V} {ds : List PyData} (h : RpL B vs ds) : RpL B vs.dropLast ds.dropLast := by
  rw [List.dropLast_eq_take, List.dropLast_eq_take, h.length]
  exact RpL.take _ h
def dPop (i : Nat) : DE := fun ρ Q => match ρ[i]? with
  | some (.l xs) => ∃ d, xs[xs.length - 1]? = some d ∧ Q d (ρ.set i (.l xs.dropLast))
  | _ => False
instance semPop (i : Nat) : SemE (tPop i) (dPop i) where
  run := by
    intro O F B H σ ρ Q Q' h q k
    unfold dPop at q
    split at q
    · rename_i xs es
      obtain ⟨d, ed, q⟩ := q
      obtain ⟨o, e1, p, vs, rfl, hp, r, nb, nf, no⟩ := h.sl _ _ es
      obtain ⟨v, ev, rv⟩ := r.get ed
      rw [← r.length] at ev
      exact ⟨p, vs, v, e1, hp, ev, k v _ B _ d (h.mut (t := .l xs.dropLast) es rfl e1 nb nf (by rw [hp]; exact fun z => nomatch z) ⟨p, _, rfl, upd_same, r.dropLast, nb, nf, no⟩ rfl) .refl rv q⟩
    · exact q.elim
theorem kit_any2 (K : PySem.W.Frag) {t : String} {a b : Ty} {u w : Bool} (h1 : kitB t a.name = some u) (h2 : kitB t b.name = some w) : PySem.W.kitAny K (.type t) [.type a.name, .type b.name] = some (u || w) := by
  unfold PySem.W.kitAny PySem.W.kitAny PySem.W.kitAny
  rw [kit_ty h1, kit_ty h2]
  cases u <;> cases w <;> rfl
def tIsi2 (a b : Ty) (te : TE) : TE := fun σ H Q => te σ H fun x H1 => ∃ d, Rp H1 x d ∧ isTy .dict d = false ∧ ∀ T, H1 T = none → Q (.bl (isTy a d || isTy b d)) (upd H1 T (.tup [.ty a.name, .ty b.name]))
def rIsi2 (a b : Ty) : List V → Hp → VK → Prop := fun xs H Q => ∃ x d T, xs = [x, .ref T] ∧ H T = some (.tup [.ty a.name, .ty b.name]) ∧ Rp H x d ∧ isTy .dict d = false ∧ Q (.bl (isTy a d || isTy b d)) H
section
variable {X : Cx}
theorem call_isi2 (a b : Ty) : CallR X (.builtin "isinstance") (rIsi2 a b) := by
  intro pins s σ H xs us Q I r h
  obtain ⟨x, d, T, rfl, hT, rp, nd, q⟩ := h
  have go : ∀ t, TyX X.K H x (.type t) → t = tyName d → wpAny (model X.prog X.w) X.A (call (.builtin "isinstance") us) (EP X pins σ Q) X.xe s := fun t ht e =>
    call_isiT pins s σ H _ us Q I r ⟨x, T, _, _, _, _, rfl, hT, .cons (.ty _) (.cons (.ty _) .nil), ht, kit_any2 _ (by rw [e]; exact kit_is a d) (by rw [e]; exact kit_is b d), q⟩
  cases rp with
  | non => exact go _ (.base .non) rfl
  | bl b => exact go _ (.base (.bl b)) rfl
  | int i => exact go _ (.base (.int i)) rfl
  | str i => exact go _ (.base (.str i)) rfl
  | lst e _ => exact go _ (.base (.lst e)) rfl
  | tup e _ => exact go _ (.base (.tup e)) rfl
  | dk e _ => cases nd
  | dt e _ => cases nd
theorem pe_isi2 (a b : Ty) {x2 x3 : Str} {e : Expr} {te : TE} {p p2 p3 tpos pos : Pos} {kk : Nat} (hg : Gl X "isinstance") (hm : X.mg "isinstance" = none) (hg2 : Gl X x2) (hm2 : X.mg x2 = none) (hv2 : bootBuiltins x2 = some (.type a.name)) (hg3 : Gl X x3) (hm3 : X.mg x3 = none) (hv3 : bootBuiltins x3 = some (.type b.name)) (he : PE X e te)
    (hb : bootBuiltins "isinstance" = some (.builtin "isinstance") := by decide +kernel) (hn2 : x2 ≠ "__name__" := by decide) (hdb2 : (x2 == ("__debug__" : Str)) = false := by decide) (hn3 : x3 ≠ "__name__" := by decide) (hdb3 : (x3 == ("__debug__" : Str)) = false := by decide)
    (h1 : starEach (e :: [.Tuple [.Name x2 p2, .Name x3 p3] kk tpos]) X.env = (false, eval e X.env) :: starEach [.Tuple [.Name x2 p2, .Name x3 p3] kk tpos] X.env := by rfl) (h2 : (backTo pos (starEach [.Tuple [.Name x2 p2, .Name x3 p3] kk tpos] X.env)).any (·.1) = false := by rfl) :
    PE X (.Call (.Name "isinstance" p) [e, .Tuple [.Name x2 p2, .Name x3 p3] kk tpos] [] pos) (tIsi2 a b te) :=
  PE.of (pe_callB (call_isi2 a b) hg hm hb (pa_cons (pe_M he) (pa_cons (pe_tup (pa_cons (pe_bltn (v := .ty a.name) hg2 hm2 hv2 rfl hn2 hdb2) (pa_cons (pe_bltn (v := .ty b.name) hg3 hm3 hv3 rfl hn3 hdb3) pa_nil))) pa_nil) h1) (by decide) (by decide) h1 h2)
    fun σ H Q h => ⟨_, h, fun v H1 ⟨d, r, nd, q⟩ => ⟨by show 2 ≤ sizeLine; rw [sizeLine_eq]; decide, fun T hT => ⟨v, d, T, rfl, upd_same, r.up (Ex.new hT), nd, q T hT⟩⟩⟩
end
def dIsi2 (a b : Ty) (e : DE) : DE := fun ρ Q => e ρ fun x ρ1 => isTy .dict x = false ∧ Q (.bool (isTy a x || isTy b x)) ρ1
instance semIsi2 (a b : Ty) (Ta : TE) (e : DE) [i1 : SemE Ta e] : SemE (tIsi2 a b Ta) (dIsi2 a b e) where
  run := fun h q k => i1.run h q fun x H1 B1 ρ1 d h1 g1 rx q1 => ⟨d, rx.up h1.eb, q1.1, fun T hT => k _ _ _ _ _ (h1.newO hT) g1 (.bl _) q1.2⟩
section
variable {X : Cx}
def rInT (neg : Bool) : R2 := fun x y H Q => ∃ p xs, y = .ref p ∧ H p = some (.tup xs) ∧ flatV x = true ∧ xs.all flatV = true ∧ Q (.bl (if neg then !inV x xs else inV x xs)) H
theorem opr_inT : OpR X (compareOp .In) (rInT false) := OpR.of op_in_seq fun x y H Q ⟨p, xs, e, h, f1, f2, q⟩ => ⟨p, xs, e, .inr (.of h), f1, f2, q⟩
end
def flatP : PyData → Bool
  | .none => true
  | .bool _ => true
  | .int _ => true
  | .str _ => true
  | _ => false
theorem rp_flat {B : Hp} {v : V} {d : PyData} (h : Rp B v d) (f : flatP d = true) : flatV v = true := by
  cases h with
  | non => rfl
  | bl => rfl
  | int => rfl
  | str => rfl
  | _ => cases f
theorem eqV_eqv {B : Hp} {v w : V} {d e : PyData} (h : Rp B v d) (g : Rp B w e) (f : flatP d = true) (f2 : flatP e = true) : eqV v w = PyData.eqv d e := by
  cases h <;> cases g <;> first | cases f | cases f2 | skip
  all_goals first | rfl | (simp [eqV, PyData.eqv]; done) | (rw [Bool.eq_iff_iff]; simp [eqV, PyData.eqv]; done) | skip
theorem rpl_flat {B : Hp} : ∀ {vs : List V} {ds : List PyData}, RpL B vs ds → ds.all flatP = true → vs.all flatV = true
  | [], _, h, _ => rfl
  | v :: vs, _, h, f => by
    cases h with
    | cons a r =>
      rw [List.all_cons, Bool.and_eq_true] at f
      rw [List.all_cons, rp_flat a f.1, rpl_flat r f.2]; rfl
theorem inV_inD {B : Hp} {x : V} {d : PyData} (hx : Rp B x d) (fx : flatP d = true) : ∀ {vs : List V} {ds : List PyData}, RpL B vs ds → ds.all flatP = true → inV x vs = inD d ds
  | [], _, h, _ => by cases h; rfl
  | v :: vs, _, h, f => by
    cases h with
    | cons a r =>
      rw [List.all_cons, Bool.and_eq_true] at f
      have e1 := eqV_eqv a hx f.1 fx
      have e2 := inV_inD hx fx r f.2
      unfold inV inD at e2 ⊢
      rw [List.any_cons, List.any_cons, e1, e2]
def dInT : D2 := fun x y Q => match y with
  | .tuple ds => (flatP x = true ∧ ds.all flatP = true) ∧ Q (.bool (inD x ds))
  | _ => False
instance op2InT : Op2 (rInT false) dInT where
  run := by
    intro O F B H σ ρ x y dx dy Q Q' h rx ry q k
    unfold dInT at q
    split at q
    · cases ry with
      | tup e r =>
        refine ⟨_, _, rfl, h.eb _ _ e, rp_flat rx q.1.1, rpl_flat r q.1.2, ?_⟩
        rw [if_neg Bool.false_ne_true, inV_inD rx q.1.1 r q.1.2]
        exact k _ _ _ _ h .refl (.bl _) q.2
    · exact q.elim
section
variable {X : Cx}
def rMinL : List V → Hp → VK → Prop := fun vs H Q => ∃ (a : Addr) (ns : List Int), vs = [V.ref a] ∧ H a = some (.lst (ns.map V.int)) ∧ 0 < ns.length ∧ ∀ m, m ∈ ns → (∀ y, y ∈ ns → m ≤ y) → Q (.int m) H
def rMaxL : List V → Hp → VK → Prop := fun vs H Q => ∃ (a : Addr) (ns : List Int), vs = [V.ref a] ∧ H a = some (.lst (ns.map V.int)) ∧ 0 < ns.length ∧ ∀ m, m ∈ ns → (∀ y, y ∈ ns → y ≤ m) → Q (.int m) H
theorem callr_minL (hc : X.calm = true) : CallR X (.builtin "min") rMinL := CallR.of (cr_min hc) fun xs H Q ⟨a, ns, e, h, q⟩ => ⟨a, ns, e, .of h, q⟩
theorem callr_maxL (hc : X.calm = true) : CallR X (.builtin "max") rMaxL := CallR.of (cr_max hc) fun xs H Q ⟨a, ns, e, h, q⟩ => ⟨a, ns, e, .of h, q⟩
end
def dMinL : DL1 := fun xs Q => ∃ ns : List Int, xs = [.list (ns.map .int)] ∧ 0 < ns.length ∧ ∀ m, m ∈ ns → (∀ y, y ∈ ns → m ≤ y) → Q (.int m)
def dMaxL : DL1 := fun xs Q => ∃ ns : List Int, xs = [.list (ns.map .int)] ∧ 0 < ns.length ∧ ∀ m, m ∈ ns → (∀ y, y ∈ ns → y ≤ m) → Q (.int m)
instance callMinL : CallD rMinL dMinL where
  run := by
    intro O F B H σ ρ xs ds Q Q' h rx q k
    obtain ⟨ns, rfl, hl, q⟩ := q
    cases rx with
    | cons a r =>
      cases r
      cases a with
      | lst e r =>
        have := rpl_ints r
        subst this
        exact ⟨_, ns, rfl, h.eb _ _ e, hl, fun m h1 h2 => k _ _ _ _ h .refl (.int _) (q m h1 h2)⟩
instance callMaxL : CallD rMaxL dMaxL where
  run := by
    intro O F B H σ ρ xs ds Q Q' h rx q k
    obtain ⟨ns, rfl, hl, q⟩ := q
    cases rx with
    | cons a r =>
      cases r
      cases a with
      | lst e r =>
        have := rpl_ints r
        subst this
        exact ⟨_, ns, rfl, h.eb _ _ e, hl, fun m h1 h2 => k _ _ _ _ h .refl (.int _) (q m h1 h2)⟩
def pairP (p : Int × Int) : PyData := .tuple [.int p.1, .int p.2]
def lexLe (p q : Int × Int) : Prop := p.1 < q.1 ∨ (p.1 = q.1 ∧ p.2 ≤ q.2)
def rSortPD : List V → Hp → VK → Prop := fun vs H Q => ∃ (a : Addr) (xs : List V) (k : V → Int × Int), vs = [V.ref a] ∧ H a = some (.lst xs) ∧ (∀ x ∈ xs, ∃ t, x = V.ref t ∧ H t = some (.tup [.int (k x).1, .int (k x).2])) ∧
  ∀ ys p, ys.Pairwise (fun x y => lexLe (k x) (k y)) → ys.Perm xs → H p = none → Q (.ref p) (upd H p (.lst ys))
def rSortX : List V → Hp → VK → Prop := fun vs H Q => rSortD vs H Q ∨ rSortPD vs H Q
section
variable {X : Cx}
theorem callr_sortP : CallR X (.builtin "sorted") rSortPD := CallR.of cr_sortedPO fun xs H Q ⟨a, ws, k, e, h, hx, q⟩ => ⟨a, ws, k, e, .of h, hx, fun ys p h1 h2 hp => q ys p (h1.imp fun {x y} h => by
  have := SrtO.lexB_no.mp h
  unfold lexLe
  omega) h2.perm hp⟩
theorem callr_sortX : CallR X (.builtin "sorted") rSortX := callr_sorted.or callr_sortP
end
def dSortP : DLN := fun xs Q => ∃ ps : List (Int × Int), xs = [.list (ps.map pairP)] ∧ ∀ qs : List (Int × Int), qs.Pairwise lexLe → qs.Perm ps → Q (qs.map pairP)
def dSortX : DLN := fun xs Q => dSorted xs Q ∨ dSortP xs Q
def keyP (H : Hp) : V → Int × Int
  | .ref t => match H t with
    | some (.tup [.int i, .int j]) => (i, j)
    | _ => (0, 0)
  | _ => (0, 0)
theorem rp_pair {B : Hp} {v : V} {p : Int × Int} (h : Rp B v (pairP p)) : ∃ t, v = .ref t ∧ B t = some (.tup [.int p.1, .int p.2]) := by
  cases h with
  | tup e r => exact ⟨_, rfl, by rw [e, rpl_int2 r]⟩
theorem rpl_pairs {B : Hp} : ∀ {vs : List V} {ps : List (Int × Int)}, RpL B vs (ps.map pairP) → vs.map (keyP B) = ps ∧ ∀ v ∈ vs, ∃ t, v = .ref t ∧ B t = some (.tup [.int (keyP B v).1, .int (keyP B v).2])
  | [], [], h => ⟨rfl, fun v hv => nomatch hv⟩
  | [], p :: ps, h => nomatch h
  | v :: vs, [], h => nomatch h
  | v :: vs, p :: ps, h => by
    cases h with
    | cons a r =>
      obtain ⟨t, rfl, e⟩ := rp_pair a
      have ek : keyP B (.ref t) = p := by simp [keyP, e]
      obtain ⟨h1, h2⟩ := rpl_pairs r
      refine ⟨by rw [List.map_cons, ek, h1], fun v hv => ?_⟩
      rcases List.mem_cons.mp hv with rfl | hv
      · exact ⟨t, rfl, by rw [ek]; exact e⟩
      · exact h2 v hv
theorem pairs_rpl {B : Hp} : ∀ {vs : List V}, (∀ v ∈ vs, ∃ t, v = .ref t ∧ B t = some (.tup [.int (keyP B v).1, .int (keyP B v).2])) → RpL B vs ((vs.map (keyP B)).map pairP)
  | [], _ => .nil
  | v :: vs, h => by
    obtain ⟨t, e1, e2⟩ := h v List.mem_cons_self
    refine .cons ?_ (pairs_rpl fun w hw => h w (List.mem_cons_of_mem _ hw))
    rw [e1] at e2 ⊢
    exact .tup e2 (.cons (.int _) (.one (.int _)))
instance callSortX : CallN rSortX dSortX where
  run := by
    intro O F B H σ ρ xs ds Q Q' h rx q k
    rcases q with q | ⟨ps, rfl, q⟩
    · exact .inl (callSorted.run h rx q k)
    · cases rx with
      | cons a r =>
        cases r
        cases a with
        | lst e r =>
          obtain ⟨h1, h2⟩ := rpl_pairs r
          refine .inr ⟨_, _, keyP B, rfl, h.eb _ _ e, fun x hx => ?_, fun ys p hp1 hp2 hp => ?_⟩
          · obtain ⟨t, e1, e2⟩ := h2 x hx
            exact ⟨t, e1, h.eb _ _ e2⟩
          · refine k p ys _ hp (pairs_rpl fun v hv => h2 v (hp2.mem_iff.mp hv)) (q _ ?_ ?_)
            · exact List.pairwise_map.mpr hp1
            · rw [← h1]; exact hp2.map _
theorem lex_uniq : ∀ {ps qs : List (Int × Int)}, ps.Pairwise lexLe → qs.Pairwise lexLe → ps.Perm qs → ps = qs
  | [], qs, _, _, h => (List.Perm.eq_nil h.symm).symm
  | p :: ps, [], _, _, h => absurd h.length_eq (by simp)
  | p :: ps, q :: qs, h1, h2, h => by
    have a : lexLe p q := by
      rcases List.mem_cons.mp (h.mem_iff.mpr (List.mem_cons_self (a := q) (l := qs))) with e | hq
      · rw [e]; exact .inr ⟨rfl, Int.le_refl _⟩
      · exact (List.pairwise_cons.mp h1).1 q hq
    have b : lexLe q p := by
      rcases List.mem_cons.mp (h.mem_iff.mp (List.mem_cons_self (a := p) (l := ps))) with e | hq
      · rw [e]; exact .inr ⟨rfl, Int.le_refl _⟩
      · exact (List.pairwise_cons.mp h2).1 p hq
    have e : p = q := by
      obtain ⟨p1, p2⟩ := p
      obtain ⟨q1, q2⟩ := q
      unfold lexLe at a b
      simp only [Prod.mk.injEq]
      simp only at a b
      omega
    subst e
    rw [lex_uniq (List.pairwise_cons.mp h1).2 (List.pairwise_cons.mp h2).2 h.cons_inv]
def tIfT (c : TT) (t u : TS) : TS := fun D σ H => tIfS c t u D σ H
theorem ps_ifT {X : Cx} {c : Expr} {a b : List Stmt} {tc : TT} {t u : TS} {pos : Pos} (hc : PT X c tc) (ha : PSs X a t) (hb : PSs X b u) : PS X (.If c a b pos) (tIfT tc t u) := ps_if hc ha hb
def dIfT (c : DT) (t u : DS) : DS := fun D ρ => c (ρ.map clS) fun b _ => if b = true then t D ρ else u D ρ
instance semIfT (Tc : TT) (T U : TS) (c : DT) (t u : DS) [i0 : SemT Tc c] [i1 : SemS T t] [i2 : SemS U u] : SemS (tIfT Tc T U) (dIfT c t u) where
  run := by
    intro O F B H σ ρ D D' h q e
    obtain ⟨B', hg, gg⟩ := h.giveAll
    refine i0.run hg.clear q fun b H1 B1 ρ1 h1 g1 q1 => ?_
    have h2 : R O F B H1 σ ρ := h.grow (Ex.refl B) (h.eb.trans h1.ef) h1.ef fun _ _ => .inl rfl
    cases b with
    | true =>
      rw [if_pos rfl] at q1 ⊢
      exact i1.run h2 q1 e
    | false =>
      rw [if_neg Bool.false_ne_true] at q1 ⊢
      exact i2.run h2 q1 e
def tAsgO (te : TE) (g : TG) : TS := fun D σ H => tAsg te g D σ H
theorem ps_setO {X : Cx} {st : Stmt} {te : TE} {g : TG} (h : PS X st (tAsg te g)) : PS X st (tAsgO te g) := h
def dAsgO (a b : DE) (i : Nat) : DS := fun D ρ => a ρ fun x ρ1 => b ρ1 fun y ρ2 => match x, y with
  | .list l, .list m => l.length + m.length ≤ sizeLine ∧ D.nx (ρ2.set i (.l (l ++ m)))
  | _, _ => False
instance semAsgO (Ta Tb : TE) (i : Nat) (a b : DE) [i1 : SemE Ta a] [i2 : SemE Tb b] : SemS (tAsgO (tOp rAddD Ta Tb) (gName i)) (dAsgO a b i) where
  run := fun h q e => i1.run h q fun x H1 B1 ρ1 dx h1 g1 rx q1 => i2.run h1 q1 fun y H2 B2 ρ2 dy h2 g2 ry q2 => by
    have rx2 := rx.up g2.ex
    split at q2
    · rename_i l m
      obtain ⟨hl, q2⟩ := q2
      cases rx2 with
      | lst e1 r1 =>
        cases ry with
        | lst e2 r2 =>
          refine .inr (.inr (.inl ⟨_, _, _, _, rfl, rfl, h2.eb _ _ e1, h2.eb _ _ e2, by rw [r1.length, r2.length]; exact hl, fun p hp => ?_⟩))
          exact e.nx ((h2.newO (o := .lst _) hp).set (s := .l (l ++ m)) ⟨p, _, rfl, upd_same, r1.append r2, h2.eb.free hp, h2.ef.free hp, fun o => h2.od p o hp⟩ fun _ q e => by cases e; exact h2.free_new hp) (g1.trans g2) q2
    · exact q2.elim
theorem FnG.voidG {P : Program} {w : World} {K : PySem.W.Frag} {mg : Str → Option Value} {base : Heap} {k : Nat} {f : Addr} {fd : FuncData} {ps : List Str} {fn : DFnG} (h : ∀ gs ds Q, ¬ fn gs ds Q) : FnG P w K mg base k f fd ps (spG fn) :=
  ⟨fun vs H Q E ⟨B, g, gv, gs, ws, ds, Qd, _, _, _, _, _, _, q, _⟩ => absurd q (h gs ds Qd), fun A outer s H args us vs Q E _ _ _ _ _ ⟨B, g, gv, gs, ws, ds, Qd, _, _, _, _, _, _, q, _⟩ => absurd q (h gs ds Qd)⟩
end DL

namespace DL
open PySem PySem.Spec PyProof.Rows L2
section
variable {Q : PyData → Prop}
theorem dEq_ss (a b : Str) : dEq (.str a) (.str b) Q = Q (.bool (decide (a = b))) := propext ⟨fun h => by have := h.2; rwa [eqv_strs] at this, fun h => eq_str h⟩
theorem dNe_ss (a b : Str) : dNe (.str a) (.str b) Q = Q (.bool (!decide (a = b))) := propext ⟨fun h => by have := h.2; rwa [eqv_strs] at this, fun h => ne_str h⟩
theorem eqv_bb (a b : Bool) : PyData.eqv (.bool a) (.bool b) = (a == b) := by cases a <;> cases b <;> rfl
theorem dEq_bb (a b : Bool) : dEq (.bool a) (.bool b) Q = Q (.bool (a == b)) := propext ⟨fun h => by have := h.2; rwa [eqv_bb] at this, fun h => ⟨.inl ⟨shaped_bool _, shaped_bool _⟩, by rw [eqv_bb]; exact h⟩⟩
theorem dNe_bb (a b : Bool) : dNe (.bool a) (.bool b) Q = Q (.bool (!(a == b))) := propext ⟨fun h => by have := h.2; rwa [eqv_bb] at this, fun h => ⟨.inl ⟨shaped_bool _, shaped_bool _⟩, by rw [eqv_bb]; exact h⟩⟩
theorem dIx_t0 (a : PyData) (l : List PyData) : dIx (.tuple (a :: l)) (.int 0) Q = Q a := propext ⟨fun ⟨d, e, q⟩ => by have := (atI_nat (xs := a :: l) (j := 0) rfl).symm.trans e; cases this; exact q, fun q => ⟨_, atI_nat (j := 0) rfl, q⟩⟩
theorem dIx_t1 (a b : PyData) (l : List PyData) : dIx (.tuple (a :: b :: l)) (.int 1) Q = Q b := propext ⟨fun ⟨d, e, q⟩ => by have := (atI_nat (xs := a :: b :: l) (j := 1) rfl).symm.trans e; cases this; exact q, fun q => ⟨_, atI_nat (j := 1) rfl, q⟩⟩
theorem dIx_t2 (a b c : PyData) (l : List PyData) : dIx (.tuple (a :: b :: c :: l)) (.int 2) Q = Q c := propext ⟨fun ⟨d, e, q⟩ => by have := (atI_nat (xs := a :: b :: c :: l) (j := 2) rfl).symm.trans e; cases this; exact q, fun q => ⟨_, atI_nat (j := 2) rfl, q⟩⟩
theorem dIx_l0 (a : PyData) (l : List PyData) : dIx (.list (a :: l)) (.int 0) Q = Q a := propext ⟨fun ⟨d, e, q⟩ => by have := (atI_nat (xs := a :: l) (j := 0) rfl).symm.trans e; cases this; exact q, fun q => ⟨_, atI_nat (j := 0) rfl, q⟩⟩
theorem dIx_l1 (a b : PyData) (l : List PyData) : dIx (.list (a :: b :: l)) (.int 1) Q = Q b := propext ⟨fun ⟨d, e, q⟩ => by have := (atI_nat (xs := a :: b :: l) (j := 1) rfl).symm.trans e; cases this; exact q, fun q => ⟨_, atI_nat (j := 1) rfl, q⟩⟩
theorem dInT_s2 (x a b : Str) : dInT (.str x) (.tuple [.str a, .str b]) Q = Q (.bool (decide (a = x) || decide (b = x))) := by
  have e : inD (.str x) [.str a, .str b] = (decide (a = x) || decide (b = x)) := by
    unfold inD
    rw [List.any_cons, List.any_cons, eqv_strs, eqv_strs, List.any_nil, Bool.or_false]
  exact propext ⟨fun h => by have := h.2; rwa [e] at this, fun h => ⟨⟨rfl, rfl⟩, by rw [e]; exact h⟩⟩
theorem dIsi2_ap (a b : Ty) (e : DE) : ∀ ρ Q, dIsi2 a b e ρ Q = (e ρ fun x ρ1 => isTy .dict x = false ∧ Q (.bool (isTy a x || isTy b x)) ρ1) := fun _ _ => rfl
theorem dIfT_ap (c : DT) (t u : DS) : ∀ D ρ, dIfT c t u D ρ = (c (ρ.map clS) fun b _ => if b = true then t D ρ else u D ρ) := fun _ _ => rfl
theorem dAsgO_ap (a b : DE) (i : Nat) : ∀ D ρ, dAsgO a b i D ρ = (a ρ fun x ρ1 => b ρ1 fun y ρ2 => match x, y with
  | .list l, .list m => l.length + m.length ≤ sizeLine ∧ D.nx (ρ2.set i (.l (l ++ m)))
  | _, _ => False) := fun _ _ => rfl
theorem dPop_ap (i : Nat) : ∀ ρ Q, dPop i ρ Q = (match ρ[i]? with
  | some (.l xs) => ∃ d, xs[xs.length - 1]? = some d ∧ Q d (ρ.set i (.l xs.dropLast))
  | _ => False) := fun _ _ => rfl
theorem dLc2_ap (a : DA) (g : DG) (tt : DT) (a1 : DA) (g1 : DG) (tt1 : DT) (te : DE) (vs vs1 : List Nat) : ∀ ρ Q, dLc2 a g tt a1 g1 tt1 te vs vs1 ρ Q = (a ρ fun ds ρ1 => lc2Go g tt a1 g1 tt1 te vs vs1 ds [] ρ1 Q) := fun _ _ => rfl
end
theorem GW.int {i : Int} (k : Nat) (h : i.natAbs < 2 ^ k) (hk : k ≤ 39) : GW 0 k (.int i) := by
  have hl : i.natAbs ≠ 0 → i.natAbs.log2 < k := fun z => (Nat.log2_lt z).mpr h
  have h100 : i.natAbs < 10 ^ 12 := Nat.lt_of_lt_of_le h (Nat.le_trans (Nat.pow_le_pow_right (by decide) hk) (by decide))
  have hs := PyData.shown_int_le h100
  refine ⟨by simp [PyData.canLay0], ?_, ?_, by simp [PyData.depth], ?_⟩
  · simp only [PyData.showable, decide_eq_true_eq]
    by_cases z : i.natAbs = 0
    · rw [z]; decide
    · have := hl z; omega
  · simp only [PyData.leavesShort, decide_eq_true_eq]; omega
  · simp only [PyData.weight]
    split
    · omega
    · rename_i z
      have : i.natAbs ≠ 0 := fun e => z (by simp; omega)
      have := hl this
      omega
/-- a while by an invariant that holds a number of turns -/
theorem whl_ind {c : DT} {t : DS} {D : DEnds} (W : Nat → DEnv → Prop) (zero : ∀ ρ, ¬ W 0 ρ)
    (step : ∀ n ρ, W (n + 1) ρ → ∀ K : DEnv → Prop, (∀ ρ', W n ρ' → K ρ') → c ρ fun b ρ1 => if b = true then t { nx := K, ct := K, bk := D.nx, rt := D.rt, rn := D.rn } ρ1 else D.nx ρ1) : ∀ n ρ, W n ρ → whGo c t D n ρ
  | 0, ρ, h => absurd h (zero ρ)
  | n + 1, ρ, h => step n ρ h _ fun ρ' h' => whl_ind W zero step n ρ' h'
/-- an own list compared with [] stays one's own -/
def dNeNil (i : Nat) : DE := fun ρ Q => match ρ[i]? with
  | some (.l xs) => SeqAt.shaped (.list xs) = true ∧ Q (.bool (!xs.isEmpty)) ρ
  | some (.d x) => dNe x (.list []) fun z => Q z ρ
  | _ => False
def dEqNil (i : Nat) : DE := fun ρ Q => match ρ[i]? with
  | some (.l xs) => SeqAt.shaped (.list xs) = true ∧ Q (.bool xs.isEmpty) ρ
  | some (.d x) => dEq x (.list []) fun z => Q z ρ
  | _ => False
theorem shaped_nil : SeqAt.shaped (.list []) = true := shaped_flats (by simp)
instance (priority := high) semNeNil (i : Nat) : SemE (tOp rNeX (tVarF i) (tLst tNil)) (dNeNil i) where
  run := by
    intro O F B H σ ρ Q Q' h q k
    unfold dNeNil at q
    split at q
    · rename_i xs es
      obtain ⟨o, e1, p, vs, rfl, hp, r, nb, nf, no⟩ := h.sl _ _ es
      refine ⟨_, e1, .inl ⟨Nat.zero_le _, fun p2 hp2 => ?_⟩⟩
      have h2 := h.newO (o := .lst []) hp2
      have ne : p ≠ p2 := fun z => by rw [z, hp2] at hp; cases hp
      refine ⟨.list xs, .list [], .lst (by rw [upd_ne ne]; exact hp) (r.up h2.eb), .lst upd_same .nil, .inl ⟨q.1, shaped_nil⟩, ?_⟩
      rw [eqv_nil]
      exact k _ _ _ _ _ h2 .refl (.bl _) q.2
    · rename_i x es
      obtain ⟨o, e1, v, rfl, r⟩ := h.sl _ _ es
      refine ⟨_, e1, .inl ⟨Nat.zero_le _, fun p2 hp2 => ?_⟩⟩
      have h2 := h.new (o := .lst []) hp2
      have g2 := Gr.new (o := .lst []) h hp2
      exact op2Ne.run h2 (r.up g2.ex) (.lst upd_same .nil) q fun v' H' B' d h' g' r' q' => k _ _ _ _ _ h' (g2.trans g') r' q'
    · exact q.elim
instance (priority := high) semEqNil (i : Nat) : SemE (tOp rEqX (tVarF i) (tLst tNil)) (dEqNil i) where
  run := by
    intro O F B H σ ρ Q Q' h q k
    unfold dEqNil at q
    split at q
    · rename_i xs es
      obtain ⟨o, e1, p, vs, rfl, hp, r, nb, nf, no⟩ := h.sl _ _ es
      refine ⟨_, e1, .inl ⟨Nat.zero_le _, fun p2 hp2 => ?_⟩⟩
      have h2 := h.newO (o := .lst []) hp2
      have ne : p ≠ p2 := fun z => by rw [z, hp2] at hp; cases hp
      refine ⟨.list xs, .list [], .lst (by rw [upd_ne ne]; exact hp) (r.up h2.eb), .lst upd_same .nil, .inl ⟨q.1, shaped_nil⟩, ?_⟩
      rw [eqv_nil]
      exact k _ _ _ _ _ h2 .refl (.bl _) q.2
    · rename_i x es
      obtain ⟨o, e1, v, rfl, r⟩ := h.sl _ _ es
      refine ⟨_, e1, .inl ⟨Nat.zero_le _, fun p2 hp2 => ?_⟩⟩
      have h2 := h.new (o := .lst []) hp2
      have g2 := Gr.new (o := .lst []) h hp2
      exact op2Eq.run h2 (r.up g2.ex) (.lst upd_same .nil) q fun v' H' B' d h' g' r' q' => k _ _ _ _ _ h' (g2.trans g') r' q'
    · exact q.elim
theorem dNeNil_ap (i : Nat) : ∀ ρ Q, dNeNil i ρ Q = (match ρ[i]? with
  | some (.l xs) => SeqAt.shaped (.list xs) = true ∧ Q (.bool (!xs.isEmpty)) ρ
  | some (.d x) => dNe x (.list []) fun z => Q z ρ
  | _ => False) := fun _ _ => rfl
theorem dEqNil_ap (i : Nat) : ∀ ρ Q, dEqNil i ρ Q = (match ρ[i]? with
  | some (.l xs) => SeqAt.shaped (.list xs) = true ∧ Q (.bool xs.isEmpty) ρ
  | some (.d x) => dEq x (.list []) fun z => Q z ρ
  | _ => False) := fun _ _ => rfl
theorem shaped_lays {xs : List PyData} (h : ∀ d ∈ xs, lay d) : SeqAt.shaped (.list xs) = true := shaped_list (n := 40) h (by decide)
theorem sort2 {a b : Int} {ns : List Int} (h : ns.Perm [a, b]) (hs : ns.Pairwise (· ≤ ·)) : ns = [min a b, max a b] := by
  have hl := h.length_eq
  match ns, hl with
  | [x, y], _ =>
    have hxy : x ≤ y := by simpa using hs
    have h1 : x ∈ [a, b] := h.mem_iff.mp (by simp)
    have h2 : y ∈ [a, b] := h.mem_iff.mp (by simp)
    have h3 : a ∈ [x, y] := h.mem_iff.mpr (by simp)
    have h4 : b ∈ [x, y] := h.mem_iff.mpr (by simp)
    simp only [List.mem_cons, List.not_mem_nil, or_false] at h1 h2 h3 h4
    have e1 : x = min a b := by omega
    have e2 : y = max a b := by omega
    rw [e1, e2]
theorem isNil_map {α : Type} (f : α → PyData) (xs : List α) : (xs.map f).isEmpty = xs.isEmpty := by cases xs <;> rfl
/-- a comprehension over the readings of things -/
theorem lc_of {α : Type} {i : Nat} {tt : DT} {te : DE} (h : α → PyData) (f : α → Bool) (g : α → PyData) {ρ : DEnv} (hk : Kept ρ i) {Q : List PyData → DEnv → Prop} : ∀ (xs : List α) (acc : List PyData),
    (∀ x ∈ xs, ∀ Q' : Bool → DEnv → Prop, Q' (f x) (ρ.set i (.d (h x))) → tt (ρ.set i (.d (h x))) Q') → (∀ x ∈ xs, f x = true → ∀ Q' : PyData → DEnv → Prop, Q' (g x) (ρ.set i (.d (h x))) → te (ρ.set i (.d (h x))) Q') → acc.length + xs.length ≤ 16000000 →
    Q (acc ++ (xs.filter f).map g) ρ → lcGo (gSet i) tt te [i] (xs.map h) acc ρ Q
  | [], acc, _, _, _, q => by
    show Q acc ρ
    simpa using q
  | x :: xs, acc, ht, he, hl, q => by
    have e1 : (wipeD ρ [i]).set i (.d (h x)) = ρ.set i (.d (h x)) := List.set_set ..
    refine ⟨by rw [sizeLine_eq]; simp at hl; omega, ?_⟩
    show tt ((wipeD ρ [i]).set i (.d (h x))) _
    rw [e1]
    refine ht x List.mem_cons_self _ ?_
    have hr : acc.length + xs.length ≤ 16000000 := by simp at hl; omega
    cases hf : f x with
    | true =>
      rw [if_pos rfl]
      refine he x List.mem_cons_self hf _ ?_
      rw [backD_one, back_self hk]
      refine lc_of h f g hk xs _ (fun y hy => ht y (List.mem_cons_of_mem _ hy)) (fun y hy => he y (List.mem_cons_of_mem _ hy)) (by simp at hl ⊢; omega) ?_
      simpa [List.filter_cons, hf] using q
    | false =>
      rw [if_neg Bool.false_ne_true, backD_one, back_self hk]
      refine lc_of h f g hk xs _ (fun y hy => ht y (List.mem_cons_of_mem _ hy)) (fun y hy => he y (List.mem_cons_of_mem _ hy)) hr ?_
      simpa [List.filter_cons, hf] using q
theorem filter_trueA {α : Type} (xs : List α) : xs.filter (fun _ => true) = xs := List.filter_eq_self.mpr fun _ _ => rfl
theorem lc_mapO {α : Type} {i : Nat} {te : DE} (h : α → PyData) (g : α → PyData) {ρ : DEnv} (hk : Kept ρ i) {Q : List PyData → DEnv → Prop} (xs : List α)
    (he : ∀ x ∈ xs, ∀ Q' : PyData → DEnv → Prop, Q' (g x) (ρ.set i (.d (h x))) → te (ρ.set i (.d (h x))) Q') (hl : xs.length ≤ 16000000) (q : Q (xs.map g) ρ) : lcGo (gSet i) dYes te [i] (xs.map h) [] ρ Q :=
  lc_of h (fun _ => true) g hk xs [] (fun x hx Q' q' => q') (fun x hx _ Q' q' => he x hx Q' q') (by simpa using hl) (by rw [filter_trueA]; exact q)
theorem lc_filterO {α : Type} {i : Nat} {tt : DT} {te : DE} (h : α → PyData) (f : α → Bool) {ρ : DEnv} (hk : Kept ρ i) {Q : List PyData → DEnv → Prop} (xs : List α)
    (ht : ∀ x ∈ xs, ∀ Q' : Bool → DEnv → Prop, Q' (f x) (ρ.set i (.d (h x))) → tt (ρ.set i (.d (h x))) Q') (he : ∀ x ∈ xs, ∀ Q' : PyData → DEnv → Prop, Q' (h x) (ρ.set i (.d (h x))) → te (ρ.set i (.d (h x))) Q') (hl : xs.length ≤ 16000000) (q : Q ((xs.filter f).map h) ρ) : lcGo (gSet i) tt te [i] (xs.map h) [] ρ Q :=
  lc_of h f h hk xs [] ht (fun x hx _ Q' q' => he x hx Q' q') (by simpa using hl) q
theorem all_mapO {α : Type} {xs : List α} {f : α → Bool} {Q : PyData → Prop} (q : Q (.bool (xs.all f))) : dAll [.list (xs.map fun x => .bool (f x))] Q :=
  ⟨xs.map f, by rw [List.map_map]; rfl, by rw [List.all_map]; exact q⟩
theorem any_mapO {α : Type} {xs : List α} {f : α → Bool} {Q : PyData → Prop} (q : Q (.bool (xs.any f))) : dAnyL [.list (xs.map fun x => .bool (f x))] Q :=
  ⟨xs.map f, by rw [List.map_map]; rfl, by rw [List.any_map]; exact q⟩
end DL

set_option synthInstance.maxHeartbeats 4000000
set_option synthInstance.maxSize 100000
namespace K34
open PySem PySem.Spec PyProof.Rows L2 DL

def topS (i : Nat) : Stmt := PySem.Challenge.pw_cluehunt_k34_whole_cells_left.main.body.getD i (.Pass ⟨0, 0, 0, 0⟩)
abbrev s_is_whole : Stmt := topS 5
abbrev N_is_whole : List Str := ["value"]
theorem sc_is_whole : FnScope N_is_whole ["value"] (defScope s_is_whole) := ⟨rfl, rfl, rfl, by decide +kernel, rfl, by decide +kernel, by decide +kernel⟩
abbrev s_is_count : Stmt := topS 6
abbrev N_is_count : List Str := ["value"]
theorem sc_is_count : FnScope N_is_count ["value"] (defScope s_is_count) := ⟨rfl, rfl, rfl, by decide +kernel, rfl, by decide +kernel, by decide +kernel⟩
abbrev s_is_grid : Stmt := topS 8
abbrev N_is_grid : List Str := ["value"]
theorem sc_is_grid : FnScope N_is_grid ["value"] (defScope s_is_grid) := ⟨rfl, rfl, rfl, by decide +kernel, rfl, by decide +kernel, by decide +kernel⟩
abbrev s_check_grid : Stmt := topS 9
abbrev N_check_grid : List Str := ["grid"]
theorem sc_check_grid : FnScope N_check_grid ["grid"] (defScope s_check_grid) := ⟨rfl, rfl, rfl, by decide +kernel, rfl, by decide +kernel, by decide +kernel⟩
abbrev s_is_cell : Stmt := topS 10
abbrev N_is_cell : List Str := ["grid", "value"]
theorem sc_is_cell : FnScope N_is_cell ["grid", "value"] (defScope s_is_cell) := ⟨rfl, rfl, rfl, by decide +kernel, rfl, by decide +kernel, by decide +kernel⟩
abbrev s_parts_of_clue : Stmt := topS 11
abbrev N_parts_of_clue : List Str := ["value"]
theorem sc_parts_of_clue : FnScope N_parts_of_clue ["value"] (defScope s_parts_of_clue) := ⟨rfl, rfl, rfl, by decide +kernel, rfl, by decide +kernel, by decide +kernel⟩
abbrev s_is_plain_clue : Stmt := topS 12
abbrev N_is_plain_clue : List Str := ["grid", "value"]
theorem sc_is_plain_clue : FnScope N_is_plain_clue ["grid", "value"] (defScope s_is_plain_clue) := ⟨rfl, rfl, rfl, by decide +kernel, rfl, by decide +kernel, by decide +kernel⟩
abbrev s_is_clue_of : Stmt := topS 13
abbrev N_is_clue_of : List Str := ["grid", "value", "line", "here", "parts"]
theorem sc_is_clue_of : FnScope N_is_clue_of ["grid", "value"] (defScope s_is_clue_of) := ⟨rfl, rfl, rfl, by decide +kernel, rfl, by decide +kernel, by decide +kernel⟩
abbrev s_plain_truth : Stmt := topS 14
abbrev N_plain_truth : List Str := ["clue", "cell", "rows", "columns", "steps"]
theorem sc_plain_truth : FnScope N_plain_truth ["clue", "cell"] (defScope s_plain_truth) := ⟨rfl, rfl, rfl, by decide +kernel, rfl, by decide +kernel, by decide +kernel⟩
abbrev s_is_true_at : Stmt := topS 15
abbrev N_is_true_at : List Str := ["clue", "cell"]
theorem sc_is_true_at : FnScope N_is_true_at ["clue", "cell"] (defScope s_is_true_at) := ⟨rfl, rfl, rfl, by decide +kernel, rfl, by decide +kernel, by decide +kernel⟩
abbrev s_check_clue : Stmt := topS 16
abbrev N_check_clue : List Str := ["grid", "clue"]
theorem sc_check_clue : FnScope N_check_clue ["grid", "clue"] (defScope s_check_clue) := ⟨rfl, rfl, rfl, by decide +kernel, rfl, by decide +kernel, by decide +kernel⟩
abbrev s_check_clues : Stmt := topS 17
abbrev N_check_clues : List Str := ["grid", "clues", "clue"]
theorem sc_check_clues : FnScope N_check_clues ["grid", "clues"] (defScope s_check_clues) := ⟨rfl, rfl, rfl, by decide +kernel, rfl, by decide +kernel, by decide +kernel⟩
abbrev s_all_cells : Stmt := topS 18
abbrev N_all_cells : List Str := ["grid", "row", "column"]
theorem sc_all_cells : FnScope N_all_cells ["grid"] (defScope s_all_cells) := ⟨rfl, rfl, rfl, by decide +kernel, rfl, by decide +kernel, by decide +kernel⟩
abbrev s_left_in : Stmt := topS 19
abbrev N_left_in : List Str := ["grid", "clues", "cell", "clue"]
theorem sc_left_in : FnScope N_left_in ["grid", "clues"] (defScope s_left_in) := ⟨rfl, rfl, rfl, by decide +kernel, rfl, by decide +kernel, by decide +kernel⟩
abbrev s_cells_left : Stmt := topS 20
abbrev N_cells_left : List Str := ["grid", "clues"]
theorem sc_cells_left : FnScope N_cells_left ["grid", "clues"] (defScope s_cells_left) := ⟨rfl, rfl, rfl, by decide +kernel, rfl, by decide +kernel, by decide +kernel⟩
abbrev s_sure_box : Stmt := topS 21
abbrev N_sure_box : List Str := ["grid", "clues", "cells", "rows", "columns", "cell"]
theorem sc_sure_box : FnScope N_sure_box ["grid", "clues"] (defScope s_sure_box) := ⟨rfl, rfl, rfl, by decide +kernel, rfl, by decide +kernel, by decide +kernel⟩
abbrev s_what_is_told : Stmt := topS 22
abbrev N_what_is_told : List Str := ["grid", "clues", "clue", "truths", "cell"]
theorem sc_what_is_told : FnScope N_what_is_told ["grid", "clues", "clue"] (defScope s_what_is_told) := ⟨rfl, rfl, rfl, by decide +kernel, rfl, by decide +kernel, by decide +kernel⟩
abbrev s__law_hash : Stmt := topS 24
abbrev N__law_hash : List Str := ["seed", "index", "mixed"]
theorem sc__law_hash : FnScope N__law_hash ["seed", "index"] (defScope s__law_hash) := ⟨rfl, rfl, rfl, by decide +kernel, rfl, by decide +kernel, by decide +kernel⟩
abbrev s__law_random : Stmt := topS 25
abbrev N__law_random : List Str := ["generator", "bound", "drawn", "turn"]
theorem sc__law_random : FnScope N__law_random ["generator", "bound"] (defScope s__law_random) := ⟨rfl, rfl, rfl, by decide +kernel, rfl, by decide +kernel, by decide +kernel⟩
abbrev s__law_cell : Stmt := topS 26
abbrev N__law_cell : List Str := ["script", "index"]
theorem sc__law_cell : FnScope N__law_cell ["script", "index"] (defScope s__law_cell) := ⟨rfl, rfl, rfl, by decide +kernel, rfl, by decide +kernel, by decide +kernel⟩
abbrev s__law_generator : Stmt := topS 27
abbrev N__law_generator : List Str := ["script", "index", "seed"]
theorem sc__law_generator : FnScope N__law_generator ["script", "index"] (defScope s__law_generator) := ⟨rfl, rfl, rfl, by decide +kernel, rfl, by decide +kernel, by decide +kernel⟩
abbrev s__law_pick : Stmt := topS 28
abbrev N__law_pick : List Str := ["generator", "things"]
theorem sc__law_pick : FnScope N__law_pick ["generator", "things"] (defScope s__law_pick) := ⟨rfl, rfl, rfl, by decide +kernel, rfl, by decide +kernel, by decide +kernel⟩
abbrev s__law_same : Stmt := topS 29
abbrev N__law_same : List Str := ["found", "due", "one", "other", "key"]
theorem sc__law_same : FnScope N__law_same ["found", "due"] (defScope s__law_same) := ⟨rfl, rfl, rfl, by decide +kernel, rfl, by decide +kernel, by decide +kernel⟩
abbrev s__law_cells : Stmt := topS 30
abbrev N__law_cells : List Str := ["grid", "found", "row", "column"]
theorem sc__law_cells : FnScope N__law_cells ["grid"] (defScope s__law_cells) := ⟨rfl, rfl, rfl, by decide +kernel, rfl, by decide +kernel, by decide +kernel⟩
abbrev s__law_grid : Stmt := topS 31
abbrev N__law_grid : List Str := ["generator", "most", "rows"]
theorem sc__law_grid : FnScope N__law_grid ["generator", "most"] (defScope s__law_grid) := ⟨rfl, rfl, rfl, by decide +kernel, rfl, by decide +kernel, by decide +kernel⟩
abbrev s__law_plain : Stmt := topS 32
abbrev N__law_plain : List Str := ["generator", "grid", "cells", "one", "other", "way"]
theorem sc__law_plain : FnScope N__law_plain ["generator", "grid"] (defScope s__law_plain) := ⟨rfl, rfl, rfl, by decide +kernel, rfl, by decide +kernel, by decide +kernel⟩
abbrev s__law_clue : Stmt := topS 33
abbrev N__law_clue : List Str := ["generator", "grid", "deep", "way"]
theorem sc__law_clue : FnScope N__law_clue ["generator", "grid", "deep"] (defScope s__law_clue) := ⟨rfl, rfl, rfl, by decide +kernel, rfl, by decide +kernel, by decide +kernel⟩
abbrev s__law_holds : Stmt := topS 34
abbrev N__law_holds : List Str := ["clue", "cell", "word", "truths", "rows", "columns", "steps"]
theorem sc__law_holds : FnScope N__law_holds ["clue", "cell"] (defScope s__law_holds) := ⟨rfl, rfl, rfl, by decide +kernel, rfl, by decide +kernel, by decide +kernel⟩
abbrev s__law_left : Stmt := topS 35
abbrev N__law_left : List Str := ["grid", "clues", "cell", "clue"]
theorem sc__law_left : FnScope N__law_left ["grid", "clues"] (defScope s__law_left) := ⟨rfl, rfl, rfl, by decide +kernel, rfl, by decide +kernel, by decide +kernel⟩
abbrev s__law_word : Stmt := topS 36
abbrev N__law_word : List Str := ["grid", "clues", "clue", "truths", "cell"]
theorem sc__law_word : FnScope N__law_word ["grid", "clues", "clue"] (defScope s__law_word) := ⟨rfl, rfl, rfl, by decide +kernel, rfl, by decide +kernel, by decide +kernel⟩
abbrev s__law_right : Stmt := topS 37
abbrev N__law_right : List Str := ["generator", "grid", "clues", "kept", "left", "told", "rows", "columns", "cell", "box", "turn", "clue", "word", "more"]
theorem sc__law_right : FnScope N__law_right ["generator", "grid", "clues"] (defScope s__law_right) := ⟨rfl, rfl, rfl, by decide +kernel, rfl, by decide +kernel, by decide +kernel⟩
abbrev s_law : Stmt := topS 38
abbrev N_law : List Str := ["script", "index", "generator", "grid", "many", "clues", "turn", "clue"]
theorem sc_law : FnScope N_law ["script"] (defScope s_law) := ⟨rfl, rfl, rfl, by decide +kernel, rfl, by decide +kernel, by decide +kernel⟩
structure Glb (mg : Str → Option Value) (base : Heap) : Prop where
  nd : base.NoDigits
  b_abs : mg "abs" = none
  b_all : mg "all" = none
  b_any : mg "any" = none
  b_bool : mg "bool" = none
  b_dict : mg "dict" = none
  b_int : mg "int" = none
  b_isinstance : mg "isinstance" = none
  b_len : mg "len" = none
  b_list : mg "list" = none
  b_max : mg "max" = none
  b_min : mg "min" = none
  b_range : mg "range" = none
  b_repr : mg "repr" = none
  b_sorted : mg "sorted" = none
  b_str : mg "str" = none
  b_sum : mg "sum" = none
  b_tuple : mg "tuple" = none
  b_zip : mg "zip" = none

theorem c22 : (((2 : Nat) : Int) = 2) = True := eq_true rfl
theorem c33 : (((3 : Nat) : Int) = 3) = True := eq_true rfl
theorem c32 : (((3 : Nat) : Int) = 2) = False := eq_false (by decide)
theorem c23 : (((2 : Nat) : Int) = 3) = False := eq_false (by decide)
theorem wd_row_column : (Str.ofString "row" = Str.ofString "column") = False := eq_false (by decide)
theorem wd_row_within : (Str.ofString "row" = Str.ofString "within") = False := eq_false (by decide)
theorem wd_row_beyond : (Str.ofString "row" = Str.ofString "beyond") = False := eq_false (by decide)
theorem wd_row_between : (Str.ofString "row" = Str.ofString "between") = False := eq_false (by decide)
theorem wd_row_not : (Str.ofString "row" = Str.ofString "not") = False := eq_false (by decide)
theorem wd_row_both : (Str.ofString "row" = Str.ofString "both") = False := eq_false (by decide)
theorem wd_row_either : (Str.ofString "row" = Str.ofString "either") = False := eq_false (by decide)
theorem wd_column_row : (Str.ofString "column" = Str.ofString "row") = False := eq_false (by decide)
theorem wd_column_within : (Str.ofString "column" = Str.ofString "within") = False := eq_false (by decide)
theorem wd_column_beyond : (Str.ofString "column" = Str.ofString "beyond") = False := eq_false (by decide)
theorem wd_column_between : (Str.ofString "column" = Str.ofString "between") = False := eq_false (by decide)
theorem wd_column_not : (Str.ofString "column" = Str.ofString "not") = False := eq_false (by decide)
theorem wd_column_both : (Str.ofString "column" = Str.ofString "both") = False := eq_false (by decide)
theorem wd_column_either : (Str.ofString "column" = Str.ofString "either") = False := eq_false (by decide)
theorem wd_within_row : (Str.ofString "within" = Str.ofString "row") = False := eq_false (by decide)
theorem wd_within_column : (Str.ofString "within" = Str.ofString "column") = False := eq_false (by decide)
theorem wd_within_beyond : (Str.ofString "within" = Str.ofString "beyond") = False := eq_false (by decide)
theorem wd_within_between : (Str.ofString "within" = Str.ofString "between") = False := eq_false (by decide)
theorem wd_within_not : (Str.ofString "within" = Str.ofString "not") = False := eq_false (by decide)
theorem wd_within_both : (Str.ofString "within" = Str.ofString "both") = False := eq_false (by decide)
theorem wd_within_either : (Str.ofString "within" = Str.ofString "either") = False := eq_false (by decide)
theorem wd_beyond_row : (Str.ofString "beyond" = Str.ofString "row") = False := eq_false (by decide)
theorem wd_beyond_column : (Str.ofString "beyond" = Str.ofString "column") = False := eq_false (by decide)
theorem wd_beyond_within : (Str.ofString "beyond" = Str.ofString "within") = False := eq_false (by decide)
theorem wd_beyond_between : (Str.ofString "beyond" = Str.ofString "between") = False := eq_false (by decide)
theorem wd_beyond_not : (Str.ofString "beyond" = Str.ofString "not") = False := eq_false (by decide)
theorem wd_beyond_both : (Str.ofString "beyond" = Str.ofString "both") = False := eq_false (by decide)
theorem wd_beyond_either : (Str.ofString "beyond" = Str.ofString "either") = False := eq_false (by decide)
theorem wd_between_row : (Str.ofString "between" = Str.ofString "row") = False := eq_false (by decide)
theorem wd_between_column : (Str.ofString "between" = Str.ofString "column") = False := eq_false (by decide)
theorem wd_between_within : (Str.ofString "between" = Str.ofString "within") = False := eq_false (by decide)
theorem wd_between_beyond : (Str.ofString "between" = Str.ofString "beyond") = False := eq_false (by decide)
theorem wd_between_not : (Str.ofString "between" = Str.ofString "not") = False := eq_false (by decide)
theorem wd_between_both : (Str.ofString "between" = Str.ofString "both") = False := eq_false (by decide)
theorem wd_between_either : (Str.ofString "between" = Str.ofString "either") = False := eq_false (by decide)
theorem wd_not_row : (Str.ofString "not" = Str.ofString "row") = False := eq_false (by decide)
theorem wd_not_column : (Str.ofString "not" = Str.ofString "column") = False := eq_false (by decide)
theorem wd_not_within : (Str.ofString "not" = Str.ofString "within") = False := eq_false (by decide)
theorem wd_not_beyond : (Str.ofString "not" = Str.ofString "beyond") = False := eq_false (by decide)
theorem wd_not_between : (Str.ofString "not" = Str.ofString "between") = False := eq_false (by decide)
theorem wd_not_both : (Str.ofString "not" = Str.ofString "both") = False := eq_false (by decide)
theorem wd_not_either : (Str.ofString "not" = Str.ofString "either") = False := eq_false (by decide)
theorem wd_both_row : (Str.ofString "both" = Str.ofString "row") = False := eq_false (by decide)
theorem wd_both_column : (Str.ofString "both" = Str.ofString "column") = False := eq_false (by decide)
theorem wd_both_within : (Str.ofString "both" = Str.ofString "within") = False := eq_false (by decide)
theorem wd_both_beyond : (Str.ofString "both" = Str.ofString "beyond") = False := eq_false (by decide)
theorem wd_both_between : (Str.ofString "both" = Str.ofString "between") = False := eq_false (by decide)
theorem wd_both_not : (Str.ofString "both" = Str.ofString "not") = False := eq_false (by decide)
theorem wd_both_either : (Str.ofString "both" = Str.ofString "either") = False := eq_false (by decide)
theorem wd_either_row : (Str.ofString "either" = Str.ofString "row") = False := eq_false (by decide)
theorem wd_either_column : (Str.ofString "either" = Str.ofString "column") = False := eq_false (by decide)
theorem wd_either_within : (Str.ofString "either" = Str.ofString "within") = False := eq_false (by decide)
theorem wd_either_beyond : (Str.ofString "either" = Str.ofString "beyond") = False := eq_false (by decide)
theorem wd_either_between : (Str.ofString "either" = Str.ofString "between") = False := eq_false (by decide)
theorem wd_either_not : (Str.ofString "either" = Str.ofString "not") = False := eq_false (by decide)
theorem wd_either_both : (Str.ofString "either" = Str.ofString "both") = False := eq_false (by decide)
theorem wd_yes_no : (Str.ofString "yes" = Str.ofString "no") = False := eq_false (by decide)
theorem wd_no_yes : (Str.ofString "no" = Str.ofString "yes") = False := eq_false (by decide)
theorem wd_open_yes : (Str.ofString "open" = Str.ofString "yes") = False := eq_false (by decide)
theorem wd_open_no : (Str.ofString "open" = Str.ofString "no") = False := eq_false (by decide)
theorem wd_yes_open : (Str.ofString "yes" = Str.ofString "open") = False := eq_false (by decide)
theorem wd_no_open : (Str.ofString "no" = Str.ofString "open") = False := eq_false (by decide)
local macro_rules | `(tactic| walk_at "ds") => `(tactic| simp -implicitDefEqProofs only [↓dRet_ap, ↓dRetL_ap, ↓dRetV_ap, ↓dRetN_ap, ↓dAndV_ap, ↓dOrV_ap, ↓dNotV_ap, ↓dAnd_ap, ↓dOr_ap, ↓dNot_ap, ↓dTest_ap, ↓dIsi_ap, ↓dOp_ap, ↓dUn_ap, ↓dN_ap, ↓dLc_ap, ↓dAny_ap, ↓dVar_ap, ↓dC_ap, ↓dLst_ap, ↓dNil_ap, ↓dCons_ap, ↓dTup_ap, ↓dIfS_ap, ↓dSeq_ap, ↓dAsg_ap, ↓dAsgN_ap, ↓dNext_ap, ↓dCall_ap, ↓dCallN_ap, ↓dCallC_ap, ↓dCallS_ap, ↓dCallG_ap, ↓dCallK_ap, ↓dCallKN_ap, ↓dCB_ap, ↓dCBN_ap, ↓dChain_ap, ↓dIf_ap, ↓dIxV_ap, ↓dLenV_ap, ↓dFor_ap, ↓dSetI_ap, ↓dBits_ap, ↓dRng1_ap, ↓dRng2_ap, ↓dApp_ap, ↓dInV_ap, ↓dAug_ap, ↓dPar_ap, ↓dPar3_ap, ↓dDrop_ap, ↓dBreak_ap, ↓dCont_ap, ↓dEnum_ap, ↓dZip_ap, ↓dSl_ap, ↓dNoPart_ap, ↓dPart_ap, ↓dRev_ap, ↓dDictP_ap, ↓dDGV_ap, ↓dYes_ap, ↓dStrOf_ap, ↓gSet_ap, ↓dK_ap, ↓dJoinS_ap, ↓dP0_ap, ↓dPc_ap, ↓dDisp_ap, ↓dNewK_ap, ↓dAsgK_ap, ↓dParL_ap, ↓dParLL_ap, ↓dIns_ap, ↓dUp_ap, ↓dSpoil_ap, ↓dIsi2_ap, ↓dIfT_ap, ↓dAsgO_ap, ↓dPop_ap, ↓dLc2_ap, ↓dNeNil_ap, ↓dEqNil_ap, dEq_ss, dNe_ss, dEq_bb, dNe_bb, dIx_t0, dIx_t1, dIx_t2, dInT_s2, clS_no, clS_d, clS_l, clS_g, clS_v, gvS_no, gvS_d, gvS_l, gvS_g, gvS_v, gdTup_t, gdCons_c, gdNil_n, dTupC_l, dTupC_t, dList_l, dList_t, c22, c33, c32, c23, decide_false, Bool.or_false, Bool.or_true, Bool.false_or, Bool.true_or, beq_self_eq_true, wd_row_column, wd_row_within, wd_row_beyond, wd_row_between, wd_row_not, wd_row_both, wd_row_either, wd_column_row, wd_column_within, wd_column_beyond, wd_column_between, wd_column_not, wd_column_both, wd_column_either, wd_within_row, wd_within_column, wd_within_beyond, wd_within_between, wd_within_not, wd_within_both, wd_within_either, wd_beyond_row, wd_beyond_column, wd_beyond_within, wd_beyond_between, wd_beyond_not, wd_beyond_both, wd_beyond_either, wd_between_row, wd_between_column, wd_between_within, wd_between_beyond, wd_between_not, wd_between_both, wd_between_either, wd_not_row, wd_not_column, wd_not_within, wd_not_beyond, wd_not_between, wd_not_both, wd_not_either, wd_both_row, wd_both_column, wd_both_within, wd_both_beyond, wd_both_between, wd_both_not, wd_both_either, wd_either_row, wd_either_column, wd_either_within, wd_either_beyond, wd_either_between, wd_either_not, wd_either_both, wd_yes_no, wd_no_yes, wd_open_yes, wd_open_no, wd_yes_open, wd_no_open, hasV, ownL, startD, List.map_cons, List.map_nil, List.length_cons, List.length_nil, List.replicate, List.cons_append, List.nil_append, List.getElem?_cons_zero, List.getElem?_cons_succ, List.set_cons_zero, List.set_cons_succ, dAdd_i, dSub_i, dMul_i, dMod_i, dFdiv_i, dPowX_i, dNeg_i, dInt1_i, dEq_i, dNe_i, ↓whGo_s, dAbs_i, dStrB_i, dMax2_i, dMin2_i, dLt_i, dLe_i, dGt_i, dGe_i, dLen_l, dLen_t, dLen_s, decide_eq_true_eq, decide_true, true_and, reduceIte, dMul_s, dAdd_l, dAdd_s, lit_le, Nat.reduceAdd, Nat.reduceLeDiff, Int.reduceToNat, Int.reduceNeg, Bool.false_eq_true, Bool.not_true, Bool.not_false, ty_int_none, ty_int_bool, ty_int_int, ty_int_str, ty_int_list, ty_int_tuple, ty_int_dict, ty_bool_none, ty_bool_bool, ty_bool_int, ty_bool_str, ty_bool_list, ty_bool_tuple, ty_bool_dict, ty_str_none, ty_str_bool, ty_str_int, ty_str_str, ty_str_list, ty_str_tuple, ty_str_dict, ty_list_none, ty_list_bool, ty_list_int, ty_list_str, ty_list_list, ty_list_tuple, ty_list_dict, ty_tuple_none, ty_tuple_bool, ty_tuple_int, ty_tuple_str, ty_tuple_list, ty_tuple_tuple, ty_tuple_dict, ty_dict_none, ty_dict_bool, ty_dict_int, ty_dict_str, ty_dict_list, ty_dict_tuple, ty_dict_dict, dIs_n, dIs_b, non_none, isB_none, non_bool, isB_bool, non_int, isB_int, non_str, isB_str, non_list, isB_list, non_tuple, isB_tuple, non_dict, isB_dict, it_list, it_tuple, it_str, it_dict])

inductive Clue where
  | row (i : Int)
  | col (i : Int)
  | near (far : Bool) (p : Int × Int) (k : Int)
  | betw (p q : Int × Int)
  | neg (x : Clue)
  | two (any : Bool) (x y : Clue)
def W (s : String) : PyData := .str (Str.ofString s)
def Clue.toD : Clue → PyData
  | .row i => .tuple [W "row", .int i]
  | .col i => .tuple [W "column", .int i]
  | .near false p k => .tuple [W "within", pairP p, .int k]
  | .near true p k => .tuple [W "beyond", pairP p, .int k]
  | .betw p q => .tuple [W "between", pairP p, pairP q]
  | .neg x => .tuple [W "not", x.toD]
  | .two false x y => .tuple [W "both", x.toD, y.toD]
  | .two true x y => .tuple [W "either", x.toD, y.toD]
def inG (R C : Nat) (p : Int × Int) : Prop := 0 ≤ p.1 ∧ p.1 < R ∧ 0 ≤ p.2 ∧ p.2 < C
def Clue.wf (R C : Nat) : Clue → Prop
  | .row i => 0 ≤ i ∧ i < R
  | .col i => 0 ≤ i ∧ i < C
  | .near _ p k => inG R C p ∧ 0 ≤ k ∧ k ≤ 10
  | .betw p q => inG R C p ∧ inG R C q
  | .neg x => x.wf R C
  | .two _ x y => x.wf R C ∧ y.wf R C
def Clue.deep : Clue → Nat
  | .neg x => x.deep + 1
  | .two _ x y => max x.deep y.deep + 1
  | _ => 0
def Clue.size : Clue → Nat
  | .neg x => x.size + 1
  | .two _ x y => x.size + y.size + 1
  | _ => 1
def dist (p q : Int × Int) : Int := (if p.1 - q.1 < 0 then -(p.1 - q.1) else p.1 - q.1) + (if p.2 - q.2 < 0 then -(p.2 - q.2) else p.2 - q.2)
def btw (a b x : Int) : Bool := decide (min a b ≤ x) && decide (x ≤ max a b)
def holds : Clue → Int × Int → Bool
  | .row i, c => decide (c.1 = i)
  | .col i, c => decide (c.2 = i)
  | .near false p k, c => decide (dist c p ≤ k)
  | .near true p k, c => decide (k < dist c p)
  | .betw p q, c => btw p.1 q.1 c.1 && btw p.2 q.2 c.2
  | .neg x, c => !holds x c
  | .two false x y, c => holds x c && holds y c
  | .two true x y, c => holds x c || holds y c
def gridD (R C : Nat) : PyData := .tuple [W "grid", .int R, .int C]
def gOk (R C : Nat) : Prop := 1 ≤ R ∧ R ≤ 100 ∧ 1 ≤ C ∧ C ≤ 100
def isWhole : PyData → Bool
  | .int _ => true
  | _ => false
def fn_is_whole : DFn := fun ds Q => ∃ v, ds = [v] ∧ Q (.bool (isWhole v))
def fn_is_count : DFn := fun ds Q => ∃ i : Int, ds = [.int i] ∧ Q (.bool (decide (0 ≤ i)))
def fn_is_grid : DFn := fun ds Q => ∃ R C : Nat, ds = [gridD R C] ∧ gOk R C ∧ Q (.bool true)
def fn_check_grid : DFn := fun ds Q => ∃ R C : Nat, ds = [gridD R C] ∧ gOk R C ∧ Q .none
def fn_is_cell : DFn := fun ds Q => ∃ (R C : Nat) (p : Int × Int), ds = [gridD R C, pairP p] ∧ inG R C p ∧ Q (.bool true)
def partsD : Clue → PyData
  | .neg x => .list [x.toD]
  | .two _ x y => .list [x.toD, y.toD]
  | _ => .none
def fn_parts_of_clue : DFn := fun ds Q => ∃ c : Clue, ds = [c.toD] ∧ Q (partsD c)
def plain : Clue → Bool
  | .neg _ => false
  | .two _ _ _ => false
  | _ => true
def fn_is_plain_clue : DFn := fun ds Q => ∃ (R C : Nat) (c : Clue), ds = [gridD R C, c.toD] ∧ c.wf R C ∧ plain c = true ∧ Q (.bool true)
def fn_is_clue_of : DFn := fun ds Q => ∃ (R C : Nat) (c : Clue), ds = [gridD R C, c.toD] ∧ gOk R C ∧ c.wf R C ∧ c.size ≤ 1000 ∧ c.deep < 20 ∧ Q (.bool true)
def fn_plain_truth : DFn := fun ds Q => ∃ (c : Clue) (p : Int × Int), ds = [c.toD, pairP p] ∧ plain c = true ∧ Q (.bool (holds c p))
def fn_is_true_at (n : Nat) : DFn := fun ds Q => ∃ (c : Clue) (p : Int × Int), ds = [c.toD, pairP p] ∧ c.deep < n ∧ Q (.bool (holds c p))
def fn_check_clue : DFn := fun ds Q => ∃ (R C : Nat) (c : Clue), ds = [gridD R C, c.toD] ∧ gOk R C ∧ c.wf R C ∧ c.size ≤ 1000 ∧ c.deep < 20 ∧ Q .none
def cOk (R C : Nat) (cs : List Clue) : Prop := cs.length ≤ 20 ∧ ∀ c ∈ cs, c.wf R C ∧ c.size ≤ 1000 ∧ c.deep < 6
def cluesD (cs : List Clue) : PyData := .list (cs.map Clue.toD)
def fn_check_clues : DFn := fun ds Q => ∃ (R C : Nat) (cs : List Clue), ds = [gridD R C, cluesD cs] ∧ gOk R C ∧ cOk R C cs ∧ Q .none
def cells (R C : Nat) : List (Int × Int) := (List.range R).flatMap fun i => (List.range C).map fun j => ((i : Nat), (j : Nat))
def cellsD (R C : Nat) : List PyData := (cells R C).map pairP
def fn_all_cells : DFnN := fun ds Q => ∃ R C : Nat, ds = [gridD R C] ∧ gOk R C ∧ Q (cellsD R C)
def leftP (R C : Nat) (cs : List Clue) : List (Int × Int) := (cells R C).filter fun p => cs.all fun c => holds c p
def leftD (R C : Nat) (cs : List Clue) : List PyData := (leftP R C cs).map pairP
def fn_left_in : DFnN := fun ds Q => ∃ (R C : Nat) (cs : List Clue), ds = [gridD R C, cluesD cs] ∧ gOk R C ∧ cOk R C cs ∧ Q (leftD R C cs)
def fn_cells_left : DFnN := fn_left_in
theorem not_le_dec (a b : Int) : (!decide (a ≤ b)) = decide (b < a) := by
  by_cases h : a ≤ b
  · rw [decide_eq_true h, decide_eq_false (by omega)]; rfl
  · rw [decide_eq_false h, decide_eq_true (by omega)]; rfl
theorem flat_len {α : Type} {f : α → List PyData} {n : Nat} : ∀ (l : List α), (∀ x ∈ l, (f x).length ≤ n) → (l.flatMap f).length ≤ l.length * n
  | [], _ => by simp
  | x :: l, h => by
    have h1 := h x List.mem_cons_self
    have h2 := flat_len l fun y hy => h y (List.mem_cons_of_mem _ hy)
    rw [List.flatMap_cons, List.length_append, List.length_cons, Nat.succ_mul]
    omega
theorem cells_rng (R C : Nat) : cellsD R C = (rng 0 (R : Int)).flatMap fun x => ((rng 0 (C : Int)).filter fun _ => true).map fun y => .tuple [x, y] := by
  unfold cellsD cells rng
  rw [filter_true, List.map_flatMap, List.flatMap_map]
  simp only [Int.sub_zero, Int.toNat_natCast, List.map_map]
  congr 1
  funext i
  apply List.map_congr_left
  intro j _
  show PyData.tuple [.int (i : Int), .int (j : Int)] = PyData.tuple [.int (0 + (i : Int)), .int (0 + (j : Int))]
  rw [Int.zero_add, Int.zero_add]
theorem cells_len {R C : Nat} (h : gOk R C) : (cells R C).length ≤ 10000 := by
  obtain ⟨h1, h2, h3, h4⟩ := h
  have e : (cells R C).length = (cellsD R C).length := by unfold cellsD; rw [List.length_map]
  rw [e, cells_rng]
  refine Nat.le_trans (flat_len (n := 100) _ fun x hx => by rw [filter_true, List.length_map, rng_length]; omega) ?_
  rw [rng_length]; omega
def keepB (cs : List Clue) : PyData → Bool
  | .tuple [.int a, .int b] => cs.all fun c => holds c (a, b)
  | _ => false
theorem left_filter (R C : Nat) (cs : List Clue) : (cellsD R C).filter (keepB cs) = leftD R C cs := by
  unfold cellsD leftD leftP
  rw [List.filter_map]
  rfl
theorem snoc_or : ∀ l : List Clue, l = [] ∨ ∃ pre x, l = pre ++ [x]
  | [] => .inl rfl
  | x :: l => .inr (by
    rcases snoc_or l with rfl | ⟨pre, y, rfl⟩
    · exact ⟨[], x, rfl⟩
    · exact ⟨x :: pre, y, rfl⟩)
theorem toD_tup (x : Clue) : ∃ s rest, x.toD = .tuple (.str s :: rest) := by
  cases x with
  | near f p k => cases f <;> exact ⟨_, _, rfl⟩
  | two f y z => cases f <;> exact ⟨_, _, rfl⟩
  | _ => exact ⟨_, _, rfl⟩
theorem size_pos : ∀ c : Clue, 1 ≤ c.size
  | .row _ => Nat.le_refl _
  | .col _ => Nat.le_refl _
  | .near _ _ _ => Nat.le_refl _
  | .betw _ _ => Nat.le_refl _
  | .neg x => by simp only [Clue.size]; omega
  | .two _ x y => by simp only [Clue.size]; omega
theorem len_sum : ∀ l : List Clue, l.length ≤ (l.map Clue.size).sum
  | [] => Nat.zero_le _
  | x :: l => by
    have := len_sum l
    have := size_pos x
    simp only [List.length_cons, List.map_cons, List.sum_cons]
    omega
theorem gw_word (s : String) (h : PyData.strOk (Str.ofString s) = true) (hl : (Str.ofString s).length ≤ 7) : GW 0 7 (W s) := (GW.str h (by omega)).le (Nat.le_refl _) hl
theorem gw_pair {R C : Nat} (hg : gOk R C) {p : Int × Int} (h : inG R C p) : GW 1 17 (pairP p) := by
  obtain ⟨a1, a2, a3, a4⟩ := hg
  obtain ⟨b1, b2, b3, b4⟩ := h
  exact (GW.tuple (GWs.cons (GW.int 7 (by have : (2 : Nat) ^ 7 = 128 := rfl; omega) (by decide)) (GWs.one (GW.int 7 (by have : (2 : Nat) ^ 7 = 128 := rfl; omega) (by decide))))).le (Nat.le_refl _) (by decide)
theorem Clue.gw {R C : Nat} : ∀ {c : Clue}, c.wf R C → gOk R C → GW (c.deep + 2) (c.size * 60) c.toD
  | .row i, ⟨h1, h2⟩, hg => by
    have := hg.2.1
    exact (GW.tuple (GWs.cons (gw_word "row" (by decide +kernel) (by decide)) (GWs.one (GW.int 7 (by have : (2 : Nat) ^ 7 = 128 := rfl; omega) (by decide))))).le (by simp only [Clue.deep]; omega) (by simp only [Clue.size]; omega)
  | .col i, ⟨h1, h2⟩, hg => by
    have := hg.2.2.2
    exact (GW.tuple (GWs.cons (gw_word "column" (by decide +kernel) (by decide)) (GWs.one (GW.int 7 (by have : (2 : Nat) ^ 7 = 128 := rfl; omega) (by decide))))).le (by simp only [Clue.deep]; omega) (by simp only [Clue.size]; omega)
  | .near false p k, ⟨h1, h2, h3⟩, hg => (GW.tuple (GWs.cons (gw_word "within" (by decide +kernel) (by decide)).dd (GWs.cons (gw_pair hg h1) (GWs.one (GW.int 7 (by have : (2 : Nat) ^ 7 = 128 := rfl; omega) (by decide)).dd)))).le (by simp only [Clue.deep]; omega) (by simp only [Clue.size]; omega)
  | .near true p k, ⟨h1, h2, h3⟩, hg => (GW.tuple (GWs.cons (gw_word "beyond" (by decide +kernel) (by decide)).dd (GWs.cons (gw_pair hg h1) (GWs.one (GW.int 7 (by have : (2 : Nat) ^ 7 = 128 := rfl; omega) (by decide)).dd)))).le (by simp only [Clue.deep]; omega) (by simp only [Clue.size]; omega)
  | .betw p q, ⟨h1, h2⟩, hg => (GW.tuple (GWs.cons (gw_word "between" (by decide +kernel) (by decide)).dd (GWs.cons (gw_pair hg h1) (GWs.one (gw_pair hg h2))))).le (by simp only [Clue.deep]; omega) (by simp only [Clue.size]; omega)
  | .neg x, h, hg => (GW.tuple (GWs.cons ((gw_word "not" (by decide +kernel) (by decide)).dd (Nat.zero_le _)) (GWs.one (Clue.gw (c := x) h hg)))).le (by simp only [Clue.deep]; omega) (by simp only [Clue.size]; omega)
  | .two false x y, ⟨h1, h2⟩, hg => (GW.tuple (GWs.cons ((gw_word "both" (by decide +kernel) (by decide)).dd (Nat.zero_le _)) (GWs.cons ((Clue.gw (c := x) h1 hg).dd (e := max x.deep y.deep + 2) (by omega)) (GWs.one ((Clue.gw (c := y) h2 hg).dd (by omega)))))).le (by simp only [Clue.deep]; omega) (by simp only [Clue.size]; omega)
  | .two true x y, ⟨h1, h2⟩, hg => (GW.tuple (GWs.cons ((gw_word "either" (by decide +kernel) (by decide)).dd (Nat.zero_le _)) (GWs.cons ((Clue.gw (c := x) h1 hg).dd (e := max x.deep y.deep + 2) (by omega)) (GWs.one ((Clue.gw (c := y) h2 hg).dd (by omega)))))).le (by simp only [Clue.deep]; omega) (by simp only [Clue.size]; omega)

def isMin (m : Int) (ns : List Int) : Prop := m ∈ ns ∧ ∀ y, y ∈ ns → m ≤ y
def isMax (m : Int) (ns : List Int) : Prop := m ∈ ns ∧ ∀ y, y ∈ ns → y ≤ m
theorem min_uniq {a b : Int} {ns : List Int} (h : isMin a ns) (g : isMin b ns) : a = b := Int.le_antisymm (h.2 b g.1) (g.2 a h.1)
theorem max_uniq {a b : Int} {ns : List Int} (h : isMax a ns) (g : isMax b ns) : a = b := Int.le_antisymm (g.2 a h.1) (h.2 b g.1)
def boxIs (ps : List (Int × Int)) (d : PyData) : Prop := (ps = [] ∧ d = .none) ∨ (ps ≠ [] ∧ ∃ a b c e : Int, isMin a (ps.map (·.1)) ∧ isMin b (ps.map (·.2)) ∧ isMax c (ps.map (·.1)) ∧ isMax e (ps.map (·.2)) ∧ d = .tuple [pairP (a, b), pairP (c, e)])
theorem box_uniq {ps : List (Int × Int)} {d e : PyData} (h : boxIs ps d) (g : boxIs ps e) : d = e := by
  rcases h with ⟨h1, h2⟩ | ⟨h1, a, b, c, f, x1, x2, x3, x4, h2⟩ <;> rcases g with ⟨g1, g2⟩ | ⟨g1, a', b', c', f', y1, y2, y3, y4, g2⟩
  · rw [h2, g2]
  · exact absurd h1 g1
  · exact absurd g1 h1
  · rw [h2, g2, min_uniq x1 y1, min_uniq x2 y2, max_uniq x3 y3, max_uniq x4 y4]
theorem box_exa {ps : List (Int × Int)} {d : PyData} (h : boxIs ps d) : exa 10 d := by
  rcases h with ⟨_, rfl⟩ | ⟨_, a, b, c, f, _, _, _, _, rfl⟩
  · trivial
  · refine ⟨by simp, fun x hx => ?_⟩
    rcases List.mem_cons.mp hx with rfl | hx
    · exact ⟨by simp, fun y hy => by
        rcases List.mem_cons.mp hy with rfl | hy
        · trivial
        · rw [List.mem_singleton.mp hy]; trivial⟩
    · rw [List.mem_singleton.mp hx]
      exact ⟨by simp, fun y hy => by
        rcases List.mem_cons.mp hy with rfl | hy
        · trivial
        · rw [List.mem_singleton.mp hy]; trivial⟩
def fn_sure_box : DFn := fun ds Q => ∃ (R C : Nat) (cs : List Clue), ds = [gridD R C, cluesD cs] ∧ gOk R C ∧ cOk R C cs ∧ ∀ d, boxIs (leftP R C cs) d → Q d
def wordD (ps : List (Int × Int)) (c : Clue) : PyData := if ps.isEmpty then .none else if ps.all (holds c) then W "yes" else if ps.any (holds c) then W "open" else W "no"
def cOne (R C : Nat) (c : Clue) : Prop := c.wf R C ∧ c.size ≤ 1000 ∧ c.deep < 6
def fn_what_is_told : DFn := fun ds Q => ∃ (R C : Nat) (cs : List Clue) (c : Clue), ds = [gridD R C, cluesD cs, c.toD] ∧ gOk R C ∧ cOk R C cs ∧ cOne R C c ∧ Q (wordD (leftP R C cs) c)
def fn_law_same (n : Nat) : DFn := fun ds Q => ∃ d, ds = [d, d] ∧ exa n d ∧ Q (.bool true)
def fn_law_cells : DFn := fun ds Q => ∃ R C : Nat, ds = [gridD R C] ∧ gOk R C ∧ Q (.list (cellsD R C))
def fn_law_grid : DFnG := fun gs ds Q => ∃ n : Nat, ds = [.int 36] ∧ Gen (n + 2) gs ∧ ∀ (R C : Nat) gs', gOk R C → Gen n gs' → Q (gridD R C) gs'
def fn_law_plain : DFnG := fun gs ds Q => ∃ (n R C : Nat), ds = [gridD R C] ∧ gOk R C ∧ Gen (n + 4) gs ∧ ∀ (c : Clue) gs', c.wf R C → plain c = true → Gen n gs' → Q c.toD gs'
def fn_law_clue (m : Nat) : DFnG := fun gs ds Q => ∃ (n R C k : Nat), ds = [gridD R C, .int k] ∧ gOk R C ∧ k < m ∧ Gen (n + 10 * 3 ^ k) gs ∧ ∀ (c : Clue) gs', c.wf R C → c.deep ≤ k → c.size < 2 ^ (k + 1) → Gen n gs' → Q c.toD gs'
def fn_law_holds : Nat → DFn := fn_is_true_at
def fn_law_left : DFnN := fn_left_in
def fn_law_word : DFn := fun ds Q => ∃ (R C : Nat) (cs : List Clue) (c : Clue), ds = [gridD R C, cluesD cs, c.toD] ∧ gOk R C ∧ cOk R C cs ∧ cOne R C c ∧ Q (wordD (leftP R C cs) c)
theorem inD_bools (b : Bool) (bs : List Bool) : inD (.bool b) (bs.map .bool) = bs.any fun x => x == b := by
  unfold inD
  rw [List.any_map]
  have e : ((fun z => PyData.eqv z (.bool b)) ∘ PyData.bool) = fun x => x == b := funext fun x => eqv_bb x b
  rw [e]
theorem in_s2 {x a b : Str} {Q : PyData → Prop} (hx : PyData.strOk x = true) (ha : PyData.strOk a = true) (hb : PyData.strOk b = true) (q : Q (.bool (decide (a = x) || decide (b = x)))) : dIn false (.str x) (.list [.str a, .str b]) Q := by
  refine ⟨⟨shaped_str hx, shaped_flats fun d hd => ?_⟩, ?_⟩
  · rcases List.mem_cons.mp hd with rfl | hd
    · exact ha
    · rw [List.mem_singleton.mp hd]; exact hb
  · have e : inD (.str x) [.str a, .str b] = (decide (a = x) || decide (b = x)) := by
      unfold inD
      rw [List.any_cons, List.any_cons, eqv_strs, eqv_strs, List.any_nil, Bool.or_false]
    rw [e]
    exact q
theorem in_bools {neg b : Bool} {bs : List Bool} {Q : PyData → Prop} (q : Q (.bool (if neg then !bs.any (fun x => x == b) else bs.any fun x => x == b))) : dIn neg (.bool b) (.list (bs.map .bool)) Q := by
  refine ⟨⟨shaped_bool _, shaped_flats fun d hd => ?_⟩, ?_⟩
  · obtain ⟨c, _, rfl⟩ := List.mem_map.mp hd
    rfl
  · rw [inD_bools]
    exact q
theorem any_false {α : Type} (xs : List α) (f : α → Bool) : ((xs.map f).any fun x => x == false) = !xs.all f := by
  induction xs with
  | nil => rfl
  | cons x xs ih => rw [List.map_cons, List.any_cons, List.all_cons, ih]; cases f x <;> rfl
theorem any_true {α : Type} (xs : List α) (f : α → Bool) : ((xs.map f).any fun x => x == true) = xs.any f := by
  induction xs with
  | nil => rfl
  | cons x xs ih => rw [List.map_cons, List.any_cons, List.any_cons, ih]; cases f x <;> rfl
theorem none_all (cs : List Clue) (p : Int × Int) : ((cs.filter fun c => !holds c p).map Clue.toD).isEmpty = cs.all fun c => holds c p := by
  induction cs with
  | nil => rfl
  | cons c cs ih =>
    rw [List.filter_cons, List.all_cons]
    cases holds c p with
    | true => simpa using ih
    | false => simp
theorem left_len {R C : Nat} (h : gOk R C) (cs : List Clue) : (leftP R C cs).length ≤ 10000 := Nat.le_trans (List.length_filter_le _ _) (cells_len h)
theorem cells_mem {R C : Nat} (h : gOk R C) {d : PyData} (hd : d ∈ cellsD R C) : ∃ p, inG R C p ∧ d = pairP p := by
  obtain ⟨p, hp, rfl⟩ := List.mem_map.mp hd
  unfold cells at hp
  obtain ⟨i, hi, hp⟩ := List.mem_flatMap.mp hp
  obtain ⟨j, hj, rfl⟩ := List.mem_map.mp hp
  have := List.mem_range.mp hi
  have := List.mem_range.mp hj
  exact ⟨_, ⟨by show (0 : Int) ≤ (i : Int); omega, by show (i : Int) < R; omega, by show (0 : Int) ≤ (j : Int); omega, by show (j : Int) < C; omega⟩, rfl⟩
theorem cells_pos {R C : Nat} (h : gOk R C) : 0 < (cells R C).length := by
  obtain ⟨h1, h2, h3, h4⟩ := h
  have : ((0 : Nat), (0 : Nat)) ∈ (List.range R).flatMap fun i => (List.range C).map fun j => (i, j) := List.mem_flatMap.mpr ⟨0, List.mem_range.mpr h1, List.mem_map.mpr ⟨0, List.mem_range.mpr h3, rfl⟩⟩
  have hm : (((0 : Nat) : Int), ((0 : Nat) : Int)) ∈ cells R C := List.mem_flatMap.mpr ⟨0, List.mem_range.mpr h1, List.mem_map.mpr ⟨0, List.mem_range.mpr h3, rfl⟩⟩
  exact List.length_pos_of_mem hm
theorem pair_lay (p : Int × Int) : lay (pairP p) := ⟨by simp [pairP, PyData.canLay0, PyData.canLayAll0], by simp [pairP, PyData.depth, PyData.depthAll]⟩
theorem pairs_lay (ps : List (Int × Int)) : ∀ d ∈ ps.map pairP, lay d := fun d hd => by
  obtain ⟨p, _, rfl⟩ := List.mem_map.mp hd
  exact pair_lay p
theorem bools_lay (bs : List Bool) : ∀ d ∈ bs.map PyData.bool, lay d := fun d hd => by
  obtain ⟨p, _, rfl⟩ := List.mem_map.mp hd
  exact ⟨by simp [PyData.canLay0], by simp [PyData.depth]⟩

theorem left_app (R C : Nat) (cs : List Clue) (c : Clue) : leftP R C (cs ++ [c]) = (leftP R C cs).filter fun p => holds c p := by
  unfold leftP
  rw [List.filter_filter]
  congr 1
  funext p
  rw [List.all_append, List.all_cons, List.all_nil, Bool.and_true, Bool.and_comm]
theorem left_two (R C : Nat) (cs : List Clue) (c : Clue) : leftP R C (cs ++ [c, .neg c]) = [] := by
  unfold leftP
  rw [List.filter_eq_nil_iff]
  intro p _ h
  rw [List.all_append, List.all_cons, List.all_cons, List.all_nil] at h
  simp only [holds] at h
  cases holds c p <;> simp at h
theorem filter_no : ∀ l : List (Int × Int), (l.filter fun _ => false).map pairP = []
  | [] => rfl
  | p :: l => by rw [List.filter_cons]; exact filter_no l
theorem cells_sorted (R C : Nat) : (cells R C).Pairwise lexLe := by
  unfold cells
  rw [List.pairwise_flatMap]
  refine ⟨fun i hi => ?_, ?_⟩
  · rw [List.pairwise_map]
    refine List.pairwise_lt_range.imp fun {a b} h => ?_
    exact .inr ⟨rfl, by show (a : Int) ≤ (b : Int); omega⟩
  · refine List.pairwise_lt_range.imp fun {a b} h x hx y hy => ?_
    obtain ⟨j, _, rfl⟩ := List.mem_map.mp hx
    obtain ⟨k, _, rfl⟩ := List.mem_map.mp hy
    exact .inl (by show (a : Int) < (b : Int); omega)
theorem left_sorted (R C : Nat) (cs : List Clue) : (leftP R C cs).Pairwise lexLe := (cells_sorted R C).filter _
theorem eqv_pair (p : Int × Int) : PyData.eqv (pairP p) (pairP p) = true := by simp [pairP, PyData.eqv, PyData.eqvAll]
theorem eqv_pairs (ps : List (Int × Int)) : PyData.eqv (.list (ps.map pairP)) (.list (ps.map pairP)) = true := by
  simp only [PyData.eqv]
  induction ps with
  | nil => simp [PyData.eqvAll]
  | cons p ps ih => simp only [List.map_cons, PyData.eqvAll, eqv_pair, Bool.true_and]; exact ih
theorem ne_pairs {ps : List (Int × Int)} {Q : PyData → Prop} (q : Q (.bool false)) : dNe (.list (ps.map pairP)) (.list (ps.map pairP)) Q :=
  ⟨.inl ⟨shaped_lays (pairs_lay _), shaped_lays (pairs_lay _)⟩, by rw [eqv_pairs]; exact q⟩
theorem ne_pairs_of {ps qs : List (Int × Int)} {Q : PyData → Prop} (h : qs = ps) (q : Q (.bool false)) : dNe (.list (qs.map pairP)) (.list (ps.map pairP)) Q := by
  subst h
  exact ne_pairs q
theorem ne_nil_of {qs : List (Int × Int)} {Q : PyData → Prop} (h : qs = []) (q : Q (.bool false)) : dNe (.list (qs.map pairP)) (.list []) Q := by
  subst h
  exact ne_nil (by simp) q
theorem inD_pair {p : Int × Int} {ps : List (Int × Int)} (h : p ∈ ps) : inD (pairP p) (ps.map pairP) = true := by
  unfold inD
  exact List.any_eq_true.mpr ⟨pairP p, List.mem_map.mpr ⟨p, h, rfl⟩, eqv_pair p⟩
theorem exa_pairs (ps : List (Int × Int)) (hl : ps.length ≤ 1000000) (n : Nat) : exa (n + 3) (.list (ps.map pairP)) := ⟨by rw [List.length_map]; exact hl, fun x hx => by
  obtain ⟨p, _, rfl⟩ := List.mem_map.mp hx
  exact ⟨by simp, fun y hy => by
    rcases List.mem_cons.mp hy with rfl | hy
    · trivial
    · rw [List.mem_singleton.mp hy]; trivial⟩⟩
theorem exa_two {n : Nat} {d : PyData} (h : exa n d) : exa (n + 1) (.list [d, d]) := ⟨by simp, fun x hx => by
  rcases List.mem_cons.mp hx with rfl | hx
  · exact h
  · rw [List.mem_singleton.mp hx]; exact h⟩
theorem word_exa (ps : List (Int × Int)) (c : Clue) (n : Nat) : exa (n + 1) (wordD ps c) := by
  unfold wordD
  split
  · trivial
  · split
    · trivial
    · split <;> trivial
theorem exa_mono : ∀ {n : Nat} {d : PyData}, exa n d → exa (n + 1) d
  | 0, d, h => h.elim
  | n + 1, .list xs, h => ⟨h.1, fun x hx => exa_mono (h.2 x hx)⟩
  | n + 1, .tuple xs, h => ⟨h.1, fun x hx => exa_mono (h.2 x hx)⟩
  | n + 1, .dict _, h => h.elim
  | n + 1, .none, _ => trivial
  | n + 1, .bool _, _ => trivial
  | n + 1, .int _, _ => trivial
  | n + 1, .str _, _ => trivial
def cLaw (R C : Nat) (cs : List Clue) : Prop := cs.length ≤ 8 ∧ ∀ c ∈ cs, c.wf R C ∧ c.size ≤ 16 ∧ c.deep ≤ 3
theorem cLaw.ok {R C : Nat} {cs : List Clue} (h : cLaw R C cs) : cOk R C cs := ⟨by have := h.1; omega, fun c hc => ⟨(h.2 c hc).1, by have := (h.2 c hc).2.1; omega, by have := (h.2 c hc).2.2; omega⟩⟩
theorem cOk.app {R C : Nat} {cs ds : List Clue} (h : cLaw R C cs) (hl : ds.length ≤ 10) (hd : ∀ c ∈ ds, c.wf R C ∧ c.size ≤ 1000 ∧ c.deep < 6) : cOk R C (cs ++ ds) := ⟨by have := h.1; rw [List.length_append]; omega, fun c hc => (List.mem_append.mp hc).elim (h.ok.2 c) (hd c)⟩
theorem gw_law {R C : Nat} (hg : gOk R C) {cs : List Clue} (h : cLaw R C cs) : reprOk (.list [gridD R C, cluesD cs]) := by
  obtain ⟨h1, h2⟩ := h
  obtain ⟨a1, a2, a3, a4⟩ := hg
  have e7 : (2 : Nat) ^ 7 = 128 := rfl
  have g1 : GW 1 40 (gridD R C) := (GW.tuple (GWs.cons (gw_word "grid" (by decide +kernel) (by decide)) (GWs.cons (GW.int 7 (by omega) (by decide)) (GWs.one (GW.int 7 (by omega) (by decide)))))).le (by decide) (by decide)
  have g2 : GW 6 8000 (cluesD cs) := (GW.list (GWs.all (d := 5) (a := 960) fun x hx => by
    obtain ⟨c, hc, rfl⟩ := List.mem_map.mp hx
    exact (Clue.gw (h2 c hc).1 ⟨a1, a2, a3, a4⟩).le (by have := (h2 c hc).2.2; omega) (by have := (h2 c hc).2.1; omega))).le (Nat.le_refl _) (by rw [List.length_map]; omega)
  exact good_rep (GW.list (GWs.cons g1.dd (GWs.one g2))).gd
def fn_law_right : DFnG := fun gs ds Q => ∃ (n R C : Nat) (cs : List Clue), ds = [gridD R C, cluesD cs] ∧ gOk R C ∧ cLaw R C cs ∧ Gen (n + 500) gs ∧ ∀ gs', Gen n gs' → Q (.bool true) gs'

def fn_law : DFnL := fun _ Q => Q (.bool true)
theorem fn_law_true (ns : List Int) : fn_law ns fun d => d = .bool true := rfl

def EXC : List Clue := [.neg (.row 0), .near false (1, 1) 1]
theorem ex1 : leftP 2 3 EXC = [(1, 0), (1, 1), (1, 2)] := by decide +kernel
theorem ex2 : wordD (leftP 2 3 EXC) (.col 2) = W "open" := by unfold wordD; rw [ex1]; rfl
theorem ex3 : leftP 2 3 [.row 0, .row 1] = [] := by decide +kernel
theorem ex4 : wordD (leftP 2 3 [.row 0, .row 1]) (.row 0) = .none := by unfold wordD; rw [ex3]; rfl
theorem ex5 : boxIs (leftP 2 3 EXC) (.tuple [pairP (1, 0), pairP (1, 2)]) := by
  rw [ex1]
  exact .inr ⟨by simp, 1, 0, 1, 2, ⟨by decide, by decide⟩, ⟨by decide, by decide⟩, ⟨by decide, by decide⟩, ⟨by decide, by decide⟩, rfl⟩
theorem ex_wf : cOk 2 3 EXC := ⟨by decide, fun c hc => by
  rcases List.mem_cons.mp hc with rfl | hc
  · exact ⟨⟨by decide, by decide⟩, by decide, by decide⟩
  · rw [List.mem_singleton.mp hc]; exact ⟨⟨⟨by decide, by decide, by decide, by decide⟩, by decide, by decide⟩, by decide, by decide⟩⟩
theorem ex_wf2 : cOk 2 3 [.row 0, .row 1] := ⟨by decide, fun c hc => by
  rcases List.mem_cons.mp hc with rfl | hc
  · exact ⟨⟨by decide, by decide⟩, by decide, by decide⟩
  · rw [List.mem_singleton.mp hc]; exact ⟨⟨by decide, by decide⟩, by decide, by decide⟩⟩


section
variable {P : Program} {w : World} {K : PySem.W.Frag} {mg : Str → Option Value} {base : Heap}
theorem ok_is_whole {f : Addr} {fd : FuncData} (F : Fun K "is_whole" "is_whole" s_is_whole f fd) (G : Glb mg base) : FnG P w K mg base 1 f fd ["value"] (spD fn_is_whole) := by
  have nd := sc_is_whole.nd
  refine mkD (k := 0) F sc_is_whole (by rintro ds Q ⟨_, rfl, _⟩; rfl) (fun cdv A outer s H E gd hr =>
    (pss_one (ps_ret (pe_and (pe_isi .int (by rfl) G.b_isinstance (by rfl) G.b_int (by decide +kernel) (pvF 0)) (pe_one (pe_not (pe_isi .bool (by rfl) G.b_isinstance (by rfl) G.b_bool (by decide +kernel) (pvF 0)))))))) inferInstance ?_
  rintro ds Q ⟨v, rfl, q⟩
  unfold N_is_whole
  walk_at "ds"
  cases v <;> exact q
theorem ok_is_count {f : Addr} {fd : FuncData} (F : Fun K "is_count" "is_count" s_is_count f fd) (G : Glb mg base) (C_is_whole : Cal P w K mg base 1 "is_whole" ["value"] (spD fn_is_whole)) : FnG P w K mg base 2 f fd ["value"] (spD fn_is_count) := by
  have nd := sc_is_count.nd
  refine mkD (k := 1) F sc_is_count (by rintro ds Q ⟨_, rfl, _⟩; rfl) (fun cdv A outer s H E gd hr =>
    (pss_one (ps_ret (pe_and (pe_cal C_is_whole gd (hr.mono (by first | decide | omega)) (by rfl) (pa_cons (pvF 0) pa_nil)) (pe_one (pe_cmpR opr_ge (pvF 0) pe_int (nomark _))))))) inferInstance ?_
  rintro ds Q ⟨i, rfl, q⟩
  unfold N_is_count
  walk_at "ds"
  exact ⟨_, rfl, q⟩
theorem ok_is_grid {f : Addr} {fd : FuncData} (F : Fun K "is_grid" "is_grid" s_is_grid f fd) (G : Glb mg base) (C_is_whole : Cal P w K mg base 1 "is_whole" ["value"] (spD fn_is_whole)) : FnG P w K mg base 2 f fd ["value"] (spD fn_is_grid) := by
  have nd := sc_is_grid.nd
  refine mkD (k := 1) F sc_is_grid (by rintro ds Q ⟨_, _, rfl, _⟩; rfl) (fun cdv A outer s H E gd hr =>
    (pss_cons (ps_if (PW.pt (pw_or (pt_not (pt_val (pe_isi .tuple (by rfl) G.b_isinstance (by rfl) G.b_tuple (by decide +kernel) (pvF 0)))) (pw_or (pt_cmpR (opr_ne (hu64 hr)) (pe_callB call_lenV (by rfl) G.b_len (by decide +kernel) (pa_cons (pvF 0) pa_nil)) pe_int (nomark _)) (pw_or (pt_not (pt_val (pe_isi .str (by rfl) G.b_isinstance (by rfl) G.b_str (by decide +kernel) (pe_ix ixr (pvF 0) pe_int (fun _ _ => rfl))))) (pw_or1 (pt_cmpR (opr_ne (hu64 hr)) (pe_ix ixr (pvF 0) pe_int (fun _ _ => rfl)) pe_str (nomark _)))))))
        (pss_one (ps_ret pe_bl))
        pss_nil)
      (pss_one (ps_ret (pe_and (pe_cal C_is_whole gd (hr.mono (by first | decide | omega)) (by rfl) (pa_cons (pe_ix ixr (pvF 0) pe_int (fun _ _ => rfl)) pa_nil)) (pe_and (pe_cmpR opr_gt (pe_ix ixr (pvF 0) pe_int (fun _ _ => rfl)) pe_int (nomark _)) (pe_and (pe_cal C_is_whole gd (hr.mono (by first | decide | omega)) (by rfl) (pa_cons (pe_ix ixr (pvF 0) pe_int (fun _ _ => rfl)) pa_nil)) (pe_one (pe_cmpR opr_gt (pe_ix ixr (pvF 0) pe_int (fun _ _ => rfl)) pe_int (nomark _)))))))))) inferInstance ?_
  rintro ds Q ⟨R, C, rfl, ⟨h1, h2, h3, h4⟩, q⟩
  unfold N_is_grid gridD W
  walk_at "ds"
  refine ⟨_, rfl, ?_⟩
  simp only [Bool.not_true, Bool.not_false, Bool.false_eq_true, reduceIte, isWhole, decide_eq_true (show (0 : Int) < (R : Int) by omega)]
  refine ⟨_, rfl, ?_⟩
  simp only [Bool.not_true, Bool.not_false, Bool.false_eq_true, reduceIte, isWhole, decide_eq_true (show (0 : Int) < (C : Int) by omega)]
  exact q
theorem ok_check_grid {f : Addr} {fd : FuncData} (F : Fun K "check_grid" "check_grid" s_check_grid f fd) (G : Glb mg base) (C_is_grid : Cal P w K mg base 2 "is_grid" ["value"] (spD fn_is_grid)) : FnG P w K mg base 3 f fd ["grid"] (spD fn_check_grid) := by
  have nd := sc_check_grid.nd
  refine mkD (k := 2) F sc_check_grid (by rintro ds Q ⟨_, _, rfl, _⟩; rfl) (fun cdv A outer s H E gd hr =>
    (pss_one (ps_if (pt_not (pt_val (pe_cal C_is_grid gd (hr.mono (by first | decide | omega)) (by rfl) (pa_cons (pvF 0) pa_nil))))
        (pss_one ps_dead)
        pss_nil))) inferInstance ?_
  rintro ds Q ⟨R, C, rfl, h, q⟩
  unfold N_check_grid
  walk_at "ds"
  exact ⟨R, C, rfl, h, q⟩
theorem ok_is_cell {f : Addr} {fd : FuncData} (F : Fun K "is_cell" "is_cell" s_is_cell f fd) (G : Glb mg base) (C_is_count : Cal P w K mg base 2 "is_count" ["value"] (spD fn_is_count)) : FnG P w K mg base 3 f fd ["grid", "value"] (spD fn_is_cell) := by
  have nd := sc_is_cell.nd
  refine mkD (k := 2) F sc_is_cell (by rintro ds Q ⟨_, _, _, rfl, _⟩; rfl) (fun cdv A outer s H E gd hr =>
    (pss_cons (ps_if (PW.pt (pw_or (pt_not (pt_val (pe_isi .tuple (by rfl) G.b_isinstance (by rfl) G.b_tuple (by decide +kernel) (pvF 1)))) (pw_or (pt_cmpR (opr_ne (hu64 hr)) (pe_callB call_lenV (by rfl) G.b_len (by decide +kernel) (pa_cons (pvF 1) pa_nil)) pe_int (nomark _)) (pw_or (pt_not (pt_val (pe_cal C_is_count gd (hr.mono (by first | decide | omega)) (by rfl) (pa_cons (pe_ix ixr (pvF 1) pe_int (fun _ _ => rfl)) pa_nil)))) (pw_or1 (pt_not (pt_val (pe_cal C_is_count gd (hr.mono (by first | decide | omega)) (by rfl) (pa_cons (pe_ix ixr (pvF 1) pe_int (fun _ _ => rfl)) pa_nil)))))))))
        (pss_one (ps_ret pe_bl))
        pss_nil)
      (pss_one (ps_ret (pe_and (pe_cmpR opr_lt (pe_ix ixr (pvF 1) pe_int (fun _ _ => rfl)) (pe_ix ixr (pvF 0) pe_int (fun _ _ => rfl)) (nomark _)) (pe_one (pe_cmpR opr_lt (pe_ix ixr (pvF 1) pe_int (fun _ _ => rfl)) (pe_ix ixr (pvF 0) pe_int (fun _ _ => rfl)) (nomark _)))))))) inferInstance ?_
  rintro ds Q ⟨R, C, p, rfl, ⟨h1, h2, h3, h4⟩, q⟩
  unfold N_is_cell gridD W pairP
  walk_at "ds"
  refine ⟨_, rfl, ?_⟩
  simp only [Bool.not_true, Bool.not_false, Bool.false_eq_true, reduceIte, isWhole, decide_eq_true h1]
  refine ⟨_, rfl, ?_⟩
  simp only [Bool.not_true, Bool.not_false, Bool.false_eq_true, reduceIte, isWhole, decide_eq_true h3, decide_eq_true h2, decide_eq_true h4]
  exact q
theorem ok_parts_of_clue {f : Addr} {fd : FuncData} (F : Fun K "parts_of_clue" "parts_of_clue" s_parts_of_clue f fd) (G : Glb mg base) : FnG P w K mg base 1 f fd ["value"] (spD fn_parts_of_clue) := by
  have nd := sc_parts_of_clue.nd
  refine mkD (k := 0) F sc_parts_of_clue (by rintro ds Q ⟨_, rfl, _⟩; rfl) (fun cdv A outer s H E gd hr =>
    (pss_cons (ps_if (PW.pt (pw_and (pt_cmpR (opr_eq (hu64 hr)) (pe_ix ixr (pvF 0) pe_int (fun _ _ => rfl)) pe_str (nomark _)) (pw_and1 (pt_cmpR (opr_eq (hu64 hr)) (pe_callB call_lenV (by rfl) G.b_len (by decide +kernel) (pa_cons (pvF 0) pa_nil)) pe_int (nomark _)))))
        (pss_one (ps_ret (pe_lst (pa_cons (pe_ix ixr (pvF 0) pe_int (fun _ _ => rfl)) pa_nil))))
        pss_nil)
      (pss_one (ps_ret (pe_ifExp (PW.pt (pw_and (pt_cmpR opr_inT (pe_ix ixr (pvF 0) pe_int (fun _ _ => rfl)) (pe_tup (pa_cons pe_str (pa_cons pe_str pa_nil))) (by rfl)) (pw_and1 (pt_cmpR (opr_eq (hu64 hr)) (pe_callB call_lenV (by rfl) G.b_len (by decide +kernel) (pa_cons (pvF 0) pa_nil)) pe_int (nomark _))))) (pe_lst (pa_cons (pe_ix ixr (pvF 0) pe_int (fun _ _ => rfl)) (pa_cons (pe_ix ixr (pvF 0) pe_int (fun _ _ => rfl)) pa_nil))) pe_non))))) inferInstance ?_
  rintro ds Q ⟨c, rfl, q⟩
  unfold N_parts_of_clue
  cases c with
  | row i => simp only [Clue.toD, W]; walk_at "ds"; exact q
  | col i => simp only [Clue.toD, W]; walk_at "ds"; exact q
  | near f p k => cases f <;> simp only [Clue.toD, W] <;> walk_at "ds" <;> exact q
  | betw p p' => simp only [Clue.toD, W]; walk_at "ds"; exact q
  | neg x => simp only [Clue.toD, W]; walk_at "ds"; exact q
  | two f x y => cases f <;> simp only [Clue.toD, W] <;> walk_at "ds" <;> exact q
theorem ok_is_plain_clue {f : Addr} {fd : FuncData} (F : Fun K "is_plain_clue" "is_plain_clue" s_is_plain_clue f fd) (G : Glb mg base) (C_is_count : Cal P w K mg base 2 "is_count" ["value"] (spD fn_is_count)) (C_is_cell : Cal P w K mg base 3 "is_cell" ["grid", "value"] (spD fn_is_cell)) : FnG P w K mg base 4 f fd ["grid", "value"] (spD fn_is_plain_clue) := by
  have nd := sc_is_plain_clue.nd
  refine mkD (k := 3) F sc_is_plain_clue (by rintro ds Q ⟨_, _, _, rfl, _⟩; rfl) (fun cdv A outer s H E gd hr =>
    (pss_cons (ps_if (pt_cmpR opr_inT (pe_ix ixr (pvF 1) pe_int (fun _ _ => rfl)) (pe_tup (pa_cons pe_str (pa_cons pe_str pa_nil))) (by rfl))
        (pss_one (ps_ret (pe_and (pe_cmpR (opr_eq (hu64 hr)) (pe_callB call_lenV (by rfl) G.b_len (by decide +kernel) (pa_cons (pvF 1) pa_nil)) pe_int (nomark _)) (pe_and (pe_cal C_is_count gd (hr.mono (by first | decide | omega)) (by rfl) (pa_cons (pe_ix ixr (pvF 1) pe_int (fun _ _ => rfl)) pa_nil)) (pe_one (pe_cmpR opr_lt (pe_ix ixr (pvF 1) pe_int (fun _ _ => rfl)) (pe_ix ixr (pvF 0) (pe_ifExp (pt_cmpR (opr_eq (hu64 hr)) (pe_ix ixr (pvF 1) pe_int (fun _ _ => rfl)) pe_str (nomark _)) pe_int pe_int) (fun _ _ => rfl)) (nomark _)))))))
        pss_nil)
      (pss_cons (ps_if (PW.pt (pw_or (pt_cmpR (opr_ne (hu64 hr)) (pe_callB call_lenV (by rfl) G.b_len (by decide +kernel) (pa_cons (pvF 1) pa_nil)) pe_int (nomark _)) (pw_or1 (pt_not (pt_val (pe_cal C_is_cell gd (hr.mono (by first | decide | omega)) (by rfl) (pa_cons (pvF 0) (pa_cons (pe_ix ixr (pvF 1) pe_int (fun _ _ => rfl)) pa_nil))))))))
        (pss_one (ps_ret pe_bl))
        pss_nil)
      (pss_cons (ps_if (pt_cmpR opr_inT (pe_ix ixr (pvF 1) pe_int (fun _ _ => rfl)) (pe_tup (pa_cons pe_str (pa_cons pe_str pa_nil))) (by rfl))
        (pss_one (ps_ret (pe_cal C_is_count gd (hr.mono (by first | decide | omega)) (by rfl) (pa_cons (pe_ix ixr (pvF 1) pe_int (fun _ _ => rfl)) pa_nil))))
        pss_nil)
      (pss_one (ps_ret (pe_and (pe_cmpR (opr_eq (hu64 hr)) (pe_ix ixr (pvF 1) pe_int (fun _ _ => rfl)) pe_str (nomark _)) (pe_one (pe_cal C_is_cell gd (hr.mono (by first | decide | omega)) (by rfl) (pa_cons (pvF 0) (pa_cons (pe_ix ixr (pvF 1) pe_int (fun _ _ => rfl)) pa_nil))))))))))) inferInstance ?_
  rintro ds Q ⟨R, C, c, rfl, hw, hp, q⟩
  unfold N_is_plain_clue gridD
  cases c with
  | row i =>
    obtain ⟨a, b⟩ := hw
    simp only [Clue.toD, W]
    walk_at "ds"
    refine ⟨_, rfl, ?_⟩
    simp only [Bool.not_true, Bool.not_false, Bool.false_eq_true, reduceIte, isWhole, decide_eq_true a, decide_eq_true b]
    exact q
  | col i =>
    obtain ⟨a, b⟩ := hw
    simp only [Clue.toD, W]
    walk_at "ds"
    refine ⟨_, rfl, ?_⟩
    simp only [Bool.not_true, Bool.not_false, Bool.false_eq_true, reduceIte, isWhole, decide_eq_true a, decide_eq_true b]
    exact q
  | near f p k =>
    obtain ⟨a, b, b2⟩ := hw
    cases f with
    | false =>
      simp only [Clue.toD, W]
      walk_at "ds"
      refine ⟨R, C, p, rfl, a, ?_⟩
      simp only [Bool.not_true, Bool.not_false, Bool.false_eq_true, reduceIte, isWhole, c33]
      refine ⟨_, rfl, ?_⟩
      simp only [Bool.not_true, Bool.not_false, Bool.false_eq_true, reduceIte, isWhole, decide_eq_true b]
      exact q
    | true =>
      simp only [Clue.toD, W]
      walk_at "ds"
      refine ⟨R, C, p, rfl, a, ?_⟩
      simp only [Bool.not_true, Bool.not_false, Bool.false_eq_true, reduceIte, isWhole, c33]
      refine ⟨_, rfl, ?_⟩
      simp only [Bool.not_true, Bool.not_false, Bool.false_eq_true, reduceIte, isWhole, decide_eq_true b]
      exact q
  | betw p p' =>
    obtain ⟨a, b⟩ := hw
    simp only [Clue.toD, W]
    walk_at "ds"
    refine ⟨R, C, p, rfl, a, ?_⟩
    simp only [Bool.not_true, Bool.not_false, Bool.false_eq_true, reduceIte, isWhole, c33]
    refine ⟨R, C, p', rfl, b, ?_⟩
    exact q
  | neg x => cases hp
  | two f x y => cases hp
theorem ok_is_clue_of {f : Addr} {fd : FuncData} (F : Fun K "is_clue_of" "is_clue_of" s_is_clue_of f fd) (G : Glb mg base) (C_parts_of_clue : Cal P w K mg base 1 "parts_of_clue" ["value"] (spD fn_parts_of_clue)) (C_is_plain_clue : Cal P w K mg base 4 "is_plain_clue" ["grid", "value"] (spD fn_is_plain_clue)) : FnG P w K mg base 5 f fd ["grid", "value"] (spD fn_is_clue_of) := by
  have nd := sc_is_clue_of.nd
  refine mkD (k := 4) F sc_is_clue_of (by rintro ds Q ⟨_, _, _, rfl, _⟩; rfl) (fun cdv A outer s H E gd hr =>
    (pss_cons (ps_set (i := 2) nd rfl (Or.inl rfl) (pe_lst (pa_cons (pvF 1) pa_nil)))
      (pss_cons (ps_while PassesOwn.never (pt_cmpR (opr_ne (hu64 hr)) (pvF 2) (pe_lst pa_nil) (nomark _))
        (pss_cons (ps_set (i := 3) nd rfl (Or.inl rfl) (pe_popD (pv 2)))
        (pss_cons (ps_if (PW.pt (pw_or (pt_not (pt_val (pe_isi .tuple (by rfl) G.b_isinstance (by rfl) G.b_tuple (by decide +kernel) (pvF 3)))) (pw_or (pt_cmpR (opr_eq (hu64 hr)) (pvF 3) (pe_tup pa_nil) (nomark _)) (pw_or1 (pt_not (pt_val (pe_isi .str (by rfl) G.b_isinstance (by rfl) G.b_str (by decide +kernel) (pe_ix ixr (pvF 3) pe_int (fun _ _ => rfl)))))))))
          (pss_one (ps_ret pe_bl))
          pss_nil)
        (pss_cons (ps_set (i := 4) nd rfl (Or.inl rfl) (pe_cal C_parts_of_clue gd (hr.mono (by first | decide | omega)) (by rfl) (pa_cons (pvF 3) pa_nil)))
        (pss_one (ps_if (pt_cmpR opr_isnot (pvF 4) pe_non (nomark _))
          (pss_one (ps_setO (ps_set (i := 2) nd rfl (Or.inl rfl) (pe_op opr_add (pvF 2) (pvF 4)))))
          (pss_one (ps_if (pt_not (pt_val (pe_cal C_is_plain_clue gd (hr.mono (by first | decide | omega)) (by rfl) (pa_cons (pvF 0) (pa_cons (pvF 3) pa_nil)))))
            (pss_one (ps_ret pe_bl))
            pss_nil))))))))
      (pss_one (ps_ret pe_bl))))) inferInstance ?_
  rintro ds Q ⟨R, C, c, rfl, hg, hw, hs, hd, q⟩
  unfold N_is_clue_of
  walk_at "ds"
  refine ⟨1001, whl_ind (fun n ρ => ∃ (ls : List Clue) (s3 s4 : Sl), ρ = [.d (gridD R C), .d c.toD, .l (ls.map Clue.toD), s3, s4] ∧ (∀ x ∈ ls, x.wf R C ∧ x.deep < 20) ∧ (ls.map Clue.size).sum < n ∧ n ≤ 1001) (fun ρ h => by obtain ⟨_, _, _, _, _, h, _⟩ := h; omega) (fun n ρ h K hK => ?_) _ _ ⟨[c], _, _, rfl, by simpa using ⟨hw, hd⟩, by simp; omega, Nat.le_refl _⟩⟩
  obtain ⟨ls, s3, s4, rfl, hx, hn, hn2⟩ := h
  have hlay : ∀ d ∈ ls.map Clue.toD, lay d := fun d hd' => by
    obtain ⟨x, hx', rfl⟩ := List.mem_map.mp hd'
    exact (Clue.gw (hx x hx').1 hg).lay (by have := (hx x hx').2; omega)
  walk_at "ds"
  refine ⟨shaped_lays hlay, ?_⟩
  rw [isNil_map]
  rcases snoc_or ls with rfl | ⟨pre, x, rfl⟩
  · exact q
  · have e0 : (pre ++ [x]).isEmpty = false := by cases pre <;> rfl
    rw [e0]
    simp only [List.map_append, List.map_cons, List.map_nil, List.sum_append, List.sum_cons, List.sum_nil] at hn
    obtain ⟨hxw, hxd⟩ := hx x (by simp)
    have hpre : ∀ y ∈ pre, y.wf R C ∧ y.deep < 20 := fun y hy => hx y (by simp [hy])
    have hsz : pre.length ≤ (pre.map Clue.size).sum := len_sum pre
    have e1 : ((pre ++ [x]).map Clue.toD)[((pre ++ [x]).map Clue.toD).length - 1]? = some x.toD := by simp
    have e2 : ((pre ++ [x]).map Clue.toD).dropLast = pre.map Clue.toD := by simp
    obtain ⟨s, rest, ex⟩ := toD_tup x
    have hx0 := Clue.gw hxw hg
    have e5 : isTy .tuple x.toD = true := by rw [ex]; rfl
    have e6 : ∀ Q : PyData → Prop, dEq x.toD (.tuple []) Q = Q (.bool false) := fun Q => by
      have : PyData.eqv x.toD (.tuple []) = false := by rw [ex]; simp [PyData.eqv, PyData.eqvAll]
      exact propext ⟨fun h => by have := h.2; rwa [‹PyData.eqv x.toD (.tuple []) = false›] at this, fun h => ⟨.inl ⟨shaped_of hx0.c (by have := hx0.d; omega), by decide +kernel⟩, by rw [this]; exact h⟩⟩
    have e7 : ∀ Q : PyData → Prop, dIx x.toD (.int 0) Q = Q (.str s) := fun Q => by rw [ex]; exact dIx_t0 _ _
    rw [Bool.not_false, if_pos rfl, e2]
    refine ⟨_, e1, ?_⟩
    simp only [e5, e6, e7, Bool.not_true, Bool.false_eq_true, reduceIte, ty_str_str]
    refine ⟨x, rfl, ?_⟩
    have push : ∀ ys : List Clue, (∀ y ∈ ys, y.wf R C ∧ y.deep < 20) → (ys.map Clue.size).sum < x.size → ∀ s3 s4, K [.d (gridD R C), .d c.toD, .l (pre.map Clue.toD ++ ys.map Clue.toD), s3, s4] := fun ys h1 h2 s3 s4 =>
      hK _ ⟨pre ++ ys, s3, s4, by rw [List.map_append], fun y hy => (List.mem_append.mp hy).elim (hpre y) (h1 y), by rw [List.map_append, List.sum_append]; omega, by omega⟩
    cases x with
    | neg y =>
      show _ ∧ _
      refine ⟨by rw [List.length_map, sizeLine_eq]; simp; omega, push [y] (fun z hz => ?_) (by simp [Clue.size]) _ _⟩
      rw [List.mem_singleton.mp hz]
      simp only [Clue.deep] at hxd
      exact ⟨hxw, by omega⟩
    | two f y y' =>
      show _ ∧ _
      refine ⟨by rw [List.length_map, sizeLine_eq]; simp; omega, push [y, y'] (fun z hz => ?_) (by simp [Clue.size]) _ _⟩
      simp only [Clue.deep] at hxd
      rcases List.mem_cons.mp hz with rfl | hz
      · exact ⟨hxw.1, by omega⟩
      · rw [List.mem_singleton.mp hz]; exact ⟨hxw.2, by omega⟩
    | row i => exact ⟨R, C, _, rfl, hxw, rfl, by simpa using push [] (by simp) (by simp [Clue.size]) _ _⟩
    | col i => exact ⟨R, C, _, rfl, hxw, rfl, by simpa using push [] (by simp) (by simp [Clue.size]) _ _⟩
    | near f p k => exact ⟨R, C, _, rfl, hxw, rfl, by simpa using push [] (by simp) (by simp [Clue.size]) _ _⟩
    | betw p p' => exact ⟨R, C, _, rfl, hxw, rfl, by simpa using push [] (by simp) (by simp [Clue.size]) _ _⟩
theorem ok_plain_truth {f : Addr} {fd : FuncData} (F : Fun K "plain_truth" "plain_truth" s_plain_truth f fd) (G : Glb mg base) : FnG P w K mg base 1 f fd ["clue", "cell"] (spD fn_plain_truth) := by
  have nd := sc_plain_truth.nd
  refine mkD (k := 0) F sc_plain_truth (by rintro ds Q ⟨_, _, rfl, _⟩; rfl) (fun cdv A outer s H E gd hr =>
    (pss_cons (ps_if (pt_cmpR opr_inT (pe_ix ixr (pvF 0) pe_int (fun _ _ => rfl)) (pe_tup (pa_cons pe_str (pa_cons pe_str pa_nil))) (by rfl))
        (pss_one (ps_ret (pe_cmpR (opr_eq (hu64 hr)) (pe_ix ixr (pvF 1) (pe_ifExp (pt_cmpR (opr_eq (hu64 hr)) (pe_ix ixr (pvF 0) pe_int (fun _ _ => rfl)) pe_str (nomark _)) pe_int pe_int) (fun _ _ => rfl)) (pe_ix ixr (pvF 0) pe_int (fun _ _ => rfl)) (nomark _))))
        pss_nil)
      (pss_cons (ps_if (pt_cmpR (opr_eq (hu64 hr)) (pe_ix ixr (pvF 0) pe_int (fun _ _ => rfl)) pe_str (nomark _))
        (pss_cons (ps_par (i := 2) (j := 3) rfl nd rfl rfl (by decide) rfl rfl (pa_cons (pe_callB callr_sortX (by rfl) G.b_sorted (by decide +kernel) (pa_cons (pe_lst (pa_cons (pe_ix ixr (pe_ix ixr (pvF 0) pe_int (fun _ _ => rfl)) pe_int (fun _ _ => rfl)) (pa_cons (pe_ix ixr (pe_ix ixr (pvF 0) pe_int (fun _ _ => rfl)) pe_int (fun _ _ => rfl)) pa_nil))) pa_nil)) (pa_cons (pe_callB callr_sortX (by rfl) G.b_sorted (by decide +kernel) (pa_cons (pe_lst (pa_cons (pe_ix ixr (pe_ix ixr (pvF 0) pe_int (fun _ _ => rfl)) pe_int (fun _ _ => rfl)) (pa_cons (pe_ix ixr (pe_ix ixr (pvF 0) pe_int (fun _ _ => rfl)) pe_int (fun _ _ => rfl)) pa_nil))) pa_nil)) pa_nil)) (by rfl))
        (pss_one (ps_ret (pe_and (pe_chain opr_le opr_le (pe_ix ixr (pvF 2) pe_int (fun _ _ => rfl)) (pe_ix ixr (pvF 1) pe_int (fun _ _ => rfl)) (pe_ix ixr (pvF 2) pe_int (fun _ _ => rfl))) (pe_one (pe_chain opr_le opr_le (pe_ix ixr (pvF 3) pe_int (fun _ _ => rfl)) (pe_ix ixr (pvF 1) pe_int (fun _ _ => rfl)) (pe_ix ixr (pvF 3) pe_int (fun _ _ => rfl))))))))
        pss_nil)
      (pss_cons (ps_set (i := 4) nd rfl (Or.inl rfl) (pe_op opr_add (pe_callB callr_abs (by rfl) G.b_abs (by decide +kernel) (pa_cons (pe_op opr_sub (pe_ix ixr (pvF 1) pe_int (fun _ _ => rfl)) (pe_ix ixr (pe_ix ixr (pvF 0) pe_int (fun _ _ => rfl)) pe_int (fun _ _ => rfl))) pa_nil)) (pe_callB callr_abs (by rfl) G.b_abs (by decide +kernel) (pa_cons (pe_op opr_sub (pe_ix ixr (pvF 1) pe_int (fun _ _ => rfl)) (pe_ix ixr (pe_ix ixr (pvF 0) pe_int (fun _ _ => rfl)) pe_int (fun _ _ => rfl))) pa_nil))))
      (pss_one (ps_ret (pe_cmpR (opr_eq (hu64 hr)) (pe_cmpR opr_le (pvF 4) (pe_ix ixr (pvF 0) pe_int (fun _ _ => rfl)) (nomark _)) (pe_cmpR (opr_eq (hu64 hr)) (pe_ix ixr (pvF 0) pe_int (fun _ _ => rfl)) pe_str (nomark _)) (nomark _)))))))) inferInstance ?_
  rintro ds Q ⟨c, p, rfl, hp, q⟩
  unfold N_plain_truth pairP
  cases c with
  | row i =>
    simp only [Clue.toD, W]
    walk_at "ds"
    exact q
  | col i =>
    simp only [Clue.toD, W]
    walk_at "ds"
    exact q
  | near f p' k =>
    cases f with
    | false =>
      simp only [Clue.toD, W, pairP]
      walk_at "ds"
      rw [beq_true]
      exact q
    | true =>
      simp only [Clue.toD, W, pairP]
      walk_at "ds"
      rw [beq_false, not_le_dec]
      exact q
  | betw a b =>
    simp only [Clue.toD, W, pairP]
    walk_at "ds"
    refine .inl (.inl ⟨[a.1, b.1], rfl, by simp, fun ns hp1 hs1 => .inl (.inl ⟨[a.2, b.2], rfl, by simp, fun ms hp2 hs2 => ?_⟩)⟩)
    rw [sort2 hp1 hs1, sort2 hp2 hs2]
    refine ⟨_, atI_nat (j := 0) rfl, ?_⟩
    walk_at "ds"
    simp only [holds, btw] at q
    have e1 := atI_nat (xs := [PyData.int (min a.1 b.1), PyData.int (max a.1 b.1)]) (j := 1) rfl
    have e2 := atI_nat (xs := [PyData.int (min a.2 b.2), PyData.int (max a.2 b.2)]) (j := 0) rfl
    have e3 := atI_nat (xs := [PyData.int (min a.2 b.2), PyData.int (max a.2 b.2)]) (j := 1) rfl
    cases h1 : decide (min a.1 b.1 ≤ p.1) with
    | false => rw [h1] at q; exact q
    | true =>
      rw [h1] at q
      refine ⟨_, e1, ?_⟩
      show match PyData.bool (decide (p.1 ≤ max a.1 b.1)) with
        | .bool true => _
        | .bool false => _
        | _ => False
      cases h2 : decide (p.1 ≤ max a.1 b.1) with
      | false => rw [h2] at q; exact q
      | true =>
        rw [h2] at q
        refine ⟨_, e2, ?_⟩
        show match PyData.bool (decide (min a.2 b.2 ≤ p.2)) with
          | .bool true => _
          | .bool false => _
          | _ => False
        cases h3 : decide (min a.2 b.2 ≤ p.2) with
        | false => rw [h3] at q; exact q
        | true =>
          rw [h3] at q
          exact ⟨_, e3, q⟩
  | neg x => cases hp
  | two f x y => cases hp
theorem ok_is_true_at {f : Addr} {fd : FuncData} (F : Fun K "is_true_at" "is_true_at" s_is_true_at f fd) (G : Glb mg base) {lev n : Nat} (hlev : 2 ≤ lev) (C_is_true_at : Cal P w K mg base lev "is_true_at" ["clue", "cell"] (spD (fn_is_true_at n))) (C_plain_truth : Cal P w K mg base 1 "plain_truth" ["clue", "cell"] (spD fn_plain_truth)) : FnG P w K mg base (lev + 1) f fd ["clue", "cell"] (spD (fn_is_true_at (n + 1))) := by
  have nd := sc_is_true_at.nd
  refine mkD (k := lev) F sc_is_true_at (by rintro ds Q ⟨_, _, rfl, _⟩; rfl) (fun cdv A outer s H E gd hr =>
    (pss_cons (ps_if (pt_cmpR (opr_eq (hu64 hr)) (pe_ix ixr (pvF 0) pe_int (fun _ _ => rfl)) pe_str (nomark _))
        (pss_one (ps_ret (pe_not (pe_cal C_is_true_at gd (hr.mono (by first | decide | omega)) (by rfl) (pa_cons (pe_ix ixr (pvF 0) pe_int (fun _ _ => rfl)) (pa_cons (pvF 1) pa_nil))))))
        pss_nil)
      (pss_cons (ps_if (pt_cmpR (opr_eq (hu64 hr)) (pe_ix ixr (pvF 0) pe_int (fun _ _ => rfl)) pe_str (nomark _))
        (pss_one (ps_ret (pe_and (pe_cal C_is_true_at gd (hr.mono (by first | decide | omega)) (by rfl) (pa_cons (pe_ix ixr (pvF 0) pe_int (fun _ _ => rfl)) (pa_cons (pvF 1) pa_nil))) (pe_one (pe_cal C_is_true_at gd (hr.mono (by first | decide | omega)) (by rfl) (pa_cons (pe_ix ixr (pvF 0) pe_int (fun _ _ => rfl)) (pa_cons (pvF 1) pa_nil)))))))
        pss_nil)
      (pss_cons (ps_if (pt_cmpR (opr_eq (hu64 hr)) (pe_ix ixr (pvF 0) pe_int (fun _ _ => rfl)) pe_str (nomark _))
        (pss_one (ps_ret (pe_or (pe_cal C_is_true_at gd (hr.mono (by first | decide | omega)) (by rfl) (pa_cons (pe_ix ixr (pvF 0) pe_int (fun _ _ => rfl)) (pa_cons (pvF 1) pa_nil))) (pe_one (pe_cal C_is_true_at gd (hr.mono (by first | decide | omega)) (by rfl) (pa_cons (pe_ix ixr (pvF 0) pe_int (fun _ _ => rfl)) (pa_cons (pvF 1) pa_nil)))))))
        pss_nil)
      (pss_one (ps_ret (pe_cal C_plain_truth gd (hr.mono (by first | decide | omega)) (by rfl) (pa_cons (pvF 0) (pa_cons (pvF 1) pa_nil))))))))) inferInstance ?_
  rintro ds Q ⟨c, p, rfl, hd, q⟩
  unfold N_is_true_at
  cases c with
  | neg x =>
    simp only [Clue.toD, W]
    walk_at "ds"
    refine ⟨x, p, rfl, by simp only [Clue.deep] at hd; omega, q⟩
  | two f x y =>
    simp only [Clue.deep] at hd
    cases f <;> (
      simp only [Clue.toD, W]
      walk_at "ds"
      refine ⟨x, p, rfl, by omega, ?_⟩
      simp only [holds] at q
      cases hx : holds x p <;> rw [hx] at q <;> first | exact q | exact ⟨y, p, rfl, by omega, q⟩)
  | row i =>
    simp only [Clue.toD, W]
    walk_at "ds"
    exact ⟨.row i, p, rfl, rfl, q⟩
  | col i =>
    simp only [Clue.toD, W]
    walk_at "ds"
    exact ⟨.col i, p, rfl, rfl, q⟩
  | near f p' k =>
    cases f
    · simp only [Clue.toD, W]
      walk_at "ds"
      exact ⟨.near false p' k, p, rfl, rfl, q⟩
    · simp only [Clue.toD, W]
      walk_at "ds"
      exact ⟨.near true p' k, p, rfl, rfl, q⟩
  | betw p' p2 =>
    simp only [Clue.toD, W]
    walk_at "ds"
    exact ⟨.betw p' p2, p, rfl, rfl, q⟩
theorem ok_check_clue {f : Addr} {fd : FuncData} (F : Fun K "check_clue" "check_clue" s_check_clue f fd) (G : Glb mg base) (C_is_clue_of : Cal P w K mg base 5 "is_clue_of" ["grid", "value"] (spD fn_is_clue_of)) : FnG P w K mg base 6 f fd ["grid", "clue"] (spD fn_check_clue) := by
  have nd := sc_check_clue.nd
  refine mkD (k := 5) F sc_check_clue (by rintro ds Q ⟨_, _, _, rfl, _⟩; rfl) (fun cdv A outer s H E gd hr =>
    (pss_one (ps_if (pt_not (pt_val (pe_cal C_is_clue_of gd (hr.mono (by first | decide | omega)) (by rfl) (pa_cons (pvF 0) (pa_cons (pvF 1) pa_nil)))))
        (pss_one ps_dead)
        pss_nil))) inferInstance ?_
  rintro ds Q ⟨R, C, c, rfl, hg, hw, hs, hd, q⟩
  unfold N_check_clue
  walk_at "ds"
  exact ⟨R, C, c, rfl, hg, hw, hs, hd, q⟩
theorem ok_check_clues {f : Addr} {fd : FuncData} (F : Fun K "check_clues" "check_clues" s_check_clues f fd) (G : Glb mg base) (C_check_grid : Cal P w K mg base 3 "check_grid" ["grid"] (spD fn_check_grid)) (C_is_clue_of : Cal P w K mg base 5 "is_clue_of" ["grid", "value"] (spD fn_is_clue_of)) : FnG P w K mg base 6 f fd ["grid", "clues"] (spD fn_check_clues) := by
  have nd := sc_check_clues.nd
  refine mkD (k := 5) F sc_check_clues (by rintro ds Q ⟨_, _, _, rfl, _⟩; rfl) (fun cdv A outer s H E gd hr =>
    (pss_cons (ps_expr (pe_cal C_check_grid gd (hr.mono (by first | decide | omega)) (by rfl) (pa_cons (pvF 0) pa_nil)))
      (pss_one (ps_if (PW.pt (pw_or (pt_not (pt_val (pe_isi .list (by rfl) G.b_isinstance (by rfl) G.b_list (by decide +kernel) (pvF 1)))) (pw_or1 (pt_not (pt_val (pe_callB (callr_all rfl) (by rfl) G.b_all (by decide +kernel) (pa_cons (pe_lcD (own := [("clue", 2)]) (vs := [2]) rfl rfl nd (pi_any (pvF 1)) (blkOk_by (N := N_check_clues) (sc := defScope s_check_clues) (by decide +kernel)) (fun _ _ _ _ _ => (pg_name (i := 2) nd rfl (Or.inl rfl))) (fun _ _ _ _ _ => pts_nil) (fun _ _ _ _ _ => (pe_cal C_is_clue_of gd (hr.mono (by first | decide | omega)) (by rfl) (pa_cons (pvF 0) (pa_cons (pvF 2) pa_nil))))) pa_nil)))))))
        (pss_one ps_dead)
        pss_nil)))) inferInstance ?_
  rintro ds Q ⟨R, C, cs, rfl, hg, ⟨hl, hc⟩, q⟩
  unfold N_check_clues cluesD
  walk_at "ds"
  refine ⟨R, C, rfl, hg, ?_⟩
  refine lc_map (fun _ => .bool true) (kept_no rfl) _ (fun x hx Q' q' => ?_) (by rw [List.length_map]; omega) ?_
  · obtain ⟨c, hc', rfl⟩ := List.mem_map.mp hx
    exact ⟨R, C, c, rfl, hg, (hc c hc').1, (hc c hc').2.1, by have := (hc c hc').2.2; omega, q'⟩
  · refine all_map (f := fun _ => true) ?_
    have : (cs.map Clue.toD).all (fun _ => true) = true := List.all_eq_true.mpr fun _ _ => rfl
    rw [this]
    exact q
theorem ok_all_cells {f : Addr} {fd : FuncData} (F : Fun K "all_cells" "all_cells" s_all_cells f fd) (G : Glb mg base) : FnG P w K mg base 1 f fd ["grid"] (spN fn_all_cells) := by
  have nd := sc_all_cells.nd
  refine mkN (k := 0) F sc_all_cells (by rintro ds Q ⟨_, _, rfl, _⟩; rfl) (fun cdv A outer s H E gd hr =>
    (pss_one (ps_ret (pe_lc2D (own := [("row", 1), ("column", 2)]) (vs := [1, 2]) (vs1 := [2]) rfl (by decide) rfl nd (pi_range1 (by rfl) G.b_range (pa_cons (pe_ix ixr (pvF 0) pe_int (fun _ _ => rfl)) pa_nil)) (blkOk_by (N := N_all_cells) (sc := defScope s_all_cells) (by decide +kernel)) (fun _ _ _ _ _ => (pg_name (i := 1) nd rfl (Or.inl rfl))) (fun _ _ _ _ _ => pts_nil) (fun _ _ _ _ _ => (pi_range1 (by rfl) G.b_range (pa_cons (pe_ix ixr (pvF 0) pe_int (fun _ _ => rfl)) pa_nil))) (fun _ _ _ _ _ => (pg_name (i := 2) nd rfl (Or.inl rfl))) (fun _ _ _ _ _ => pts_nil) (fun _ _ _ _ _ => (pe_tup (pa_cons (pvF 1) (pa_cons (pvF 2) pa_nil)))))))) inferInstance ?_
  rintro ds Q ⟨R, C, rfl, ⟨a1, a2, a3, a4⟩, q⟩
  unfold N_all_cells gridD
  walk_at "ds"
  refine ⟨⟨by omega, by omega⟩, ?_⟩
  refine lc2_map (fun _ => rng 0 (C : Int)) (fun _ _ => true) (fun x y => .tuple [x, y]) (by decide) rfl rfl _ _ (fun x hx Q' q' => ?_) (fun x hx y hy Q' q' => q') (fun x hx y hy _ Q' q' => ?_) ?_ ?_
  · walk_at "ds"
    exact ⟨⟨by omega, by omega⟩, q'⟩
  · walk_at "ds"
    exact q'
  · rw [List.length_nil, Nat.zero_add]
    refine Nat.le_trans (flat_len (n := 100) _ fun x hx => by rw [rng_length]; omega) ?_
    rw [rng_length]; omega
  · rw [List.nil_append, ← cells_rng]
    exact q
theorem ok_left_in {f : Addr} {fd : FuncData} (F : Fun K "left_in" "left_in" s_left_in f fd) (G : Glb mg base) (C_is_true_at : Cal P w K mg base 8 "is_true_at" ["clue", "cell"] (spD (fn_is_true_at 6))) (C_all_cells : Cal P w K mg base 1 "all_cells" ["grid"] (spN fn_all_cells)) : FnG P w K mg base 9 f fd ["grid", "clues"] (spN fn_left_in) := by
  have nd := sc_left_in.nd
  refine mkN (k := 8) F sc_left_in (by rintro ds Q ⟨_, _, _, rfl, _⟩; rfl) (fun cdv A outer s H E gd hr =>
    (pss_one (ps_ret (pe_lcD (own := [("cell", 2)]) (vs := [2]) rfl rfl nd (pi_any (pe_cal C_all_cells gd (hr.mono (by first | decide | omega)) (by rfl) (pa_cons (pvF 0) pa_nil))) (blkOk_by (N := N_left_in) (sc := defScope s_left_in) (by decide +kernel)) (fun _ _ _ _ _ => (pg_name (i := 2) nd rfl (Or.inr rfl))) (fun _ _ _ _ _ => (pts_one (pt_val (pe_callB (callr_all rfl) (by rfl) G.b_all (by decide +kernel) (pa_cons (pe_lcD (own := [("clue", 3)]) (vs := [3]) rfl rfl nd (pi_any (pvF 1)) (blkOk_by (N := N_left_in) (by kernel_rfl)) (fun _ _ _ _ _ => (pg_name (i := 3) nd rfl (Or.inl rfl))) (fun _ _ _ _ _ => pts_nil) (fun _ _ _ _ _ => (pe_cal C_is_true_at gd (hr.mono (by first | decide | omega)) (by rfl) (pa_cons (pvF 3) (pa_cons (pvF 2) pa_nil))))) pa_nil))))) (fun _ _ _ _ _ => (pvF 2)))))) inferInstance ?_
  rintro ds Q ⟨R, C, cs, rfl, hg, ⟨hl, hc⟩, q⟩
  unfold N_left_in cluesD
  walk_at "ds"
  refine ⟨R, C, rfl, hg, ?_⟩
  refine lc_filter (keepB cs) (kept_no rfl) _ (fun x hx Q' q' => ?_) (fun x hx Q' q' => q') ?_ ?_
  · obtain ⟨p, hp, rfl⟩ := List.mem_map.mp hx
    walk_at "ds"
    refine lc_mapO Clue.toD (fun c => .bool (holds c p)) (kept_no rfl) cs (fun c hc' Q' q' => ?_) (by omega) (all_mapO ?_)
    · exact ⟨c, p, rfl, (hc c hc').2.2, q'⟩
    · exact q'
  · unfold cellsD
    rw [List.length_map]
    have := cells_len hg
    omega
  · rw [left_filter]
    exact q
theorem ok_cells_left {f : Addr} {fd : FuncData} (F : Fun K "cells_left" "cells_left" s_cells_left f fd) (G : Glb mg base) (C_check_clues : Cal P w K mg base 6 "check_clues" ["grid", "clues"] (spD fn_check_clues)) (C_left_in : Cal P w K mg base 9 "left_in" ["grid", "clues"] (spN fn_left_in)) : FnG P w K mg base 10 f fd ["grid", "clues"] (spN fn_cells_left) := by
  have nd := sc_cells_left.nd
  refine mkN (k := 9) F sc_cells_left (by rintro ds Q ⟨_, _, _, rfl, _⟩; rfl) (fun cdv A outer s H E gd hr =>
    (pss_cons (ps_expr (pe_cal C_check_clues gd (hr.mono (by first | decide | omega)) (by rfl) (pa_cons (pvF 0) (pa_cons (pvF 1) pa_nil))))
      (pss_one (ps_ret (pe_cal C_left_in gd (hr.mono (by first | decide | omega)) (by rfl) (pa_cons (pvF 0) (pa_cons (pvF 1) pa_nil))))))) inferInstance ?_
  rintro ds Q ⟨R, C, cs, rfl, hg, hc, q⟩
  unfold N_cells_left
  walk_at "ds"
  exact ⟨R, C, cs, rfl, hg, hc, R, C, cs, rfl, hg, hc, q⟩
theorem ok_sure_box {f : Addr} {fd : FuncData} (F : Fun K "sure_box" "sure_box" s_sure_box f fd) (G : Glb mg base) (C_check_clues : Cal P w K mg base 6 "check_clues" ["grid", "clues"] (spD fn_check_clues)) (C_left_in : Cal P w K mg base 9 "left_in" ["grid", "clues"] (spN fn_left_in)) : FnG P w K mg base 11 f fd ["grid", "clues"] (spD fn_sure_box) := by
  have nd := sc_sure_box.nd
  refine mkD (k := 10) F sc_sure_box (by rintro ds Q ⟨_, _, _, rfl, _⟩; rfl) (fun cdv A outer s H E gd hr =>
    (pss_cons (ps_expr (pe_cal C_check_clues gd (hr.mono (by first | decide | omega)) (by rfl) (pa_cons (pvF 0) (pa_cons (pvF 1) pa_nil))))
      (pss_cons (ps_set (i := 2) nd rfl (Or.inl rfl) (pe_cal C_left_in gd (hr.mono (by first | decide | omega)) (by rfl) (pa_cons (pvF 0) (pa_cons (pvF 1) pa_nil))))
      (pss_cons (ps_if (pt_cmpR (opr_eq (hu64 hr)) (pvF 2) (pe_lst pa_nil) (nomark _))
        (pss_one (ps_ret pe_non))
        pss_nil)
      (pss_cons (ps_par (i := 3) (j := 4) rfl nd rfl rfl (by decide) rfl rfl (pa_cons (pe_lcD (own := [("cell", 5)]) (vs := [5]) rfl rfl nd (pi_any (pvF 2)) (blkOk_by (N := N_sure_box) (sc := defScope s_sure_box) (by decide +kernel)) (fun _ _ _ _ _ => (pg_name (i := 5) nd rfl (Or.inl rfl))) (fun _ _ _ _ _ => pts_nil) (fun _ _ _ _ _ => (pe_ix ixr (pvF 5) pe_int (fun _ _ => rfl)))) (pa_cons (pe_lcD (own := [("cell", 5)]) (vs := [5]) rfl rfl nd (pi_any (pvF 2)) (blkOk_by (N := N_sure_box) (sc := defScope s_sure_box) (by decide +kernel)) (fun _ _ _ _ _ => (pg_name (i := 5) nd rfl (Or.inl rfl))) (fun _ _ _ _ _ => pts_nil) (fun _ _ _ _ _ => (pe_ix ixr (pvF 5) pe_int (fun _ _ => rfl)))) pa_nil)) (by rfl))
      (pss_one (ps_ret (pe_tup (pa_cons (pe_tup (pa_cons (pe_callB (callr_minL rfl) (by rfl) G.b_min (by decide +kernel) (pa_cons (pvF 3) pa_nil)) (pa_cons (pe_callB (callr_minL rfl) (by rfl) G.b_min (by decide +kernel) (pa_cons (pvF 4) pa_nil)) pa_nil))) (pa_cons (pe_tup (pa_cons (pe_callB (callr_maxL rfl) (by rfl) G.b_max (by decide +kernel) (pa_cons (pvF 3) pa_nil)) (pa_cons (pe_callB (callr_maxL rfl) (by rfl) G.b_max (by decide +kernel) (pa_cons (pvF 4) pa_nil)) pa_nil))) pa_nil)))))))))) inferInstance ?_
  rintro ds Q ⟨R, C, cs, rfl, hg, hc, q⟩
  unfold N_sure_box
  walk_at "ds"
  refine ⟨R, C, cs, rfl, hg, hc, R, C, cs, rfl, hg, hc, ?_⟩
  refine ⟨shaped_lays (pairs_lay _), ?_⟩
  unfold leftD
  have hl := left_len hg cs
  generalize leftP R C cs = ps at q hl ⊢
  rw [isNil_map]
  cases he : ps.isEmpty with
  | true => exact q _ (.inl ⟨List.isEmpty_iff.mp he, rfl⟩)
  | false =>
    have hne : ps ≠ [] := fun z => by rw [z] at he; cases he
    have hpos : 0 < ps.length := List.length_pos_iff.mpr hne
    rw [if_neg Bool.false_ne_true]
    refine lc_mapO pairP (fun p => .int p.1) (kept_no rfl) ps (fun p hp Q' q' => ?_) (by omega) ?_
    · unfold pairP
      walk_at "ds"
      exact q'
    walk_at "ds"
    refine lc_mapO pairP (fun p => .int p.2) (kept_no rfl) ps (fun p hp Q' q' => ?_) (by omega) ?_
    · unfold pairP
      walk_at "ds"
      exact q'
    walk_at "ds"
    refine ⟨ps.map (·.1), by rw [List.map_map]; rfl, by rw [List.length_map]; exact hpos, fun a a1 a2 => ?_⟩
    refine ⟨ps.map (·.2), by rw [List.map_map]; rfl, by rw [List.length_map]; exact hpos, fun b b1 b2 => ?_⟩
    refine ⟨ps.map (·.1), by rw [List.map_map]; rfl, by rw [List.length_map]; exact hpos, fun c c1 c2 => ?_⟩
    refine ⟨ps.map (·.2), by rw [List.map_map]; rfl, by rw [List.length_map]; exact hpos, fun e e1 e2 => ?_⟩
    exact q _ (.inr ⟨hne, a, b, c, e, ⟨a1, a2⟩, ⟨b1, b2⟩, ⟨c1, c2⟩, ⟨e1, e2⟩, rfl⟩)
theorem ok_what_is_told {f : Addr} {fd : FuncData} (F : Fun K "what_is_told" "what_is_told" s_what_is_told f fd) (G : Glb mg base) (C_check_clues : Cal P w K mg base 6 "check_clues" ["grid", "clues"] (spD fn_check_clues)) (C_check_clue : Cal P w K mg base 6 "check_clue" ["grid", "clue"] (spD fn_check_clue)) (C_left_in : Cal P w K mg base 9 "left_in" ["grid", "clues"] (spN fn_left_in)) (C_is_true_at : Cal P w K mg base 8 "is_true_at" ["clue", "cell"] (spD (fn_is_true_at 6))) : FnG P w K mg base 11 f fd ["grid", "clues", "clue"] (spD fn_what_is_told) := by
  have nd := sc_what_is_told.nd
  refine mkD (k := 10) F sc_what_is_told (by rintro ds Q ⟨_, _, _, _, rfl, _⟩; rfl) (fun cdv A outer s H E gd hr =>
    (pss_cons (ps_expr (pe_cal C_check_clues gd (hr.mono (by first | decide | omega)) (by rfl) (pa_cons (pvF 0) (pa_cons (pvF 1) pa_nil))))
      (pss_cons (ps_expr (pe_cal C_check_clue gd (hr.mono (by first | decide | omega)) (by rfl) (pa_cons (pvF 0) (pa_cons (pvF 2) pa_nil))))
      (pss_cons (ps_setLcD (i := 3) rfl rfl (sw_true rfl rfl rfl (by decide +kernel)) (own := [("cell", 4)]) (vs := [4]) rfl rfl nd (pi_any (pe_cal C_left_in gd (hr.mono (by first | decide | omega)) (by rfl) (pa_cons (pvF 0) (pa_cons (pvF 1) pa_nil)))) (blkOk_by (N := N_what_is_told) (sc := defScope s_what_is_told) (by decide +kernel)) (fun _ _ _ _ _ => (pg_name (i := 4) nd rfl (Or.inl rfl))) (fun _ _ _ _ _ => pts_nil) (fun _ _ _ _ _ => (pe_cal C_is_true_at gd (hr.mono (by first | decide | omega)) (by rfl) (pa_cons (pvF 2) (pa_cons (pvF 4) pa_nil)))))
      (pss_cons (ps_if (pt_cmpR (opr_eq (hu64 hr)) (pvF 3) (pe_lst pa_nil) (nomark _))
        (pss_one (ps_ret pe_non))
        pss_nil)
      (pss_one (ps_ret (pe_ifExp (pt_val (pe_callB (callr_all rfl) (by rfl) G.b_all (by decide +kernel) (pa_cons (pvF 3) pa_nil))) pe_str (pe_ifExp (pt_val (pe_callB (callr_any rfl) (by rfl) G.b_any (by decide +kernel) (pa_cons (pvF 3) pa_nil))) pe_str pe_str))))))))) inferInstance ?_
  rintro ds Q ⟨R, C, cs, c, rfl, hg, hc, ⟨ho1, ho2, ho3⟩, q⟩
  unfold N_what_is_told
  walk_at "ds"
  refine ⟨R, C, cs, rfl, hg, hc, R, C, c, rfl, hg, ho1, ho2, by omega, R, C, cs, rfl, hg, hc, ?_⟩
  show lcGo _ _ _ _ _ _ _ _
  unfold leftD
  have hl := left_len hg cs
  unfold wordD at q
  generalize leftP R C cs = ps at q hl ⊢
  refine lc_mapO pairP (fun p => .bool (holds c p)) (kept_no rfl) ps (fun p hp Q' q' => ⟨c, p, rfl, ho3, q'⟩) (by omega) ?_
  walk_at "ds"
  refine ⟨shaped_lays (fun d hd => ?_), ?_⟩
  · obtain ⟨p, _, rfl⟩ := List.mem_map.mp hd
    exact ⟨by simp [PyData.canLay0], by simp [PyData.depth]⟩
  rw [isNil_map]
  cases he : ps.isEmpty with
  | true => rw [he] at q; exact q
  | false =>
    rw [he] at q
    rw [if_neg Bool.false_ne_true] at q ⊢
    refine all_mapO ?_
    cases ha : ps.all (holds c) with
    | true => rw [ha] at q; exact q
    | false =>
      rw [ha] at q
      rw [if_neg Bool.false_ne_true] at q
      simp only [Bool.false_eq_true, reduceIte]
      refine any_mapO ?_
      cases hb : ps.any (holds c) with
      | true => rw [hb] at q; exact q
      | false => rw [hb] at q; exact q
theorem ok__law_hash {f : Addr} {fd : FuncData} (F : Fun K "_law_hash" "_law_hash" s__law_hash f fd) (G : Glb mg base) : FnG P w K mg base 1 f fd ["seed", "index"] (spD fn_law_hash) := by
  have nd := sc__law_hash.nd
  refine mkD (k := 0) F sc__law_hash (by rintro ds Q ⟨_, _, rfl, _⟩; rfl) (fun cdv A outer s H E gd hr =>
    (pss_cons (ps_set (i := 2) nd rfl (Or.inl rfl) (pe_op opr_mod (pe_callTy callr_int (by rfl) G.b_int (by decide +kernel) (pa_cons (pe_op opr_add (pe_op opr_add (pe_op opr_add (pe_op opr_mul (pvF 0) pe_int) (pe_op opr_mul (pe_op opr_mul pe_int (pvF 1)) (pvF 1))) (pe_op opr_mul pe_int (pvF 1))) pe_int) pa_nil)) pe_int))
      (pss_cons (ps_set (i := 2) nd rfl (Or.inl rfl) (pe_op opr_mod (pe_callTy callr_int (by rfl) G.b_int (by decide +kernel) (pa_cons (pe_op opr_add (pe_op opr_add (pe_op opr_mul (pvF 2) (pvF 2)) (pe_op opr_mul pe_int (pvF 1))) pe_int) pa_nil)) pe_int))
      (pss_one (ps_ret (pe_op opr_mod (pe_callTy callr_int (by rfl) G.b_int (by decide +kernel) (pa_cons (pe_op opr_mul (pvF 2) pe_int) pa_nil)) pe_int)))))) inferInstance ?_
  rintro ds Q ⟨s, i, rfl, h0, h1, q⟩
  unfold N__law_hash
  walk_at "ds"
  refine ⟨cm2 (by decide), cm1 (by decide), cm2 (by omega), cm1 (by decide), (by decide : (0 : Int) < 2147483629), ?_⟩
  generalize s * 1140671 + 27644437 * i * i + 131 * i + 19 = x
  have h2 := em (a := x) (m := 2147483629) (by decide)
  refine ⟨cm1 (by omega), cm1 (by decide), (by decide : (0 : Int) < 2147483587), ?_⟩
  generalize x % 2147483629 * (x % 2147483629) + 62089 * i + 32416187 = y
  have h3 := em (a := y) (m := 2147483587) (by decide)
  have h4 := em (a := y % 2147483587 * 48271) (m := 2147483647) (by decide)
  exact ⟨cm2 (by decide), (by decide : (0 : Int) < 2147483647), q _ h4.1 h4.2⟩
theorem ok__law_random {f : Addr} {fd : FuncData} (F : Fun K "_law_random" "_law_random" s__law_random f fd) (G : Glb mg base) (C__law_hash : Cal P w K mg base 1 "_law_hash" ["seed", "index"] (spD fn_law_hash)) : FnG P w K mg base 2 f fd ["generator", "bound"] (spG fn_law_random) := by
  have nd := sc__law_random.nd
  refine mkG (k := 1) F sc__law_random (by rintro gs ds Q ⟨_, _, rfl, _⟩; rfl) (by decide) (fun cdv A outer s H E gd hr =>
    (pss_cons (ps_if (pt_cmpR opr_gt (pe_ix ixr (pvF 0) pe_int (fun _ _ => rfl)) pe_int (nomark _))
        (pss_cons (ps_set (i := 2) nd rfl (Or.inl rfl) (pe_op opr_mod (pe_callTy callr_int (by rfl) G.b_int (by decide +kernel) (pa_cons (pe_ix ixr (pvF 0) pe_int (fun _ _ => rfl)) pa_nil)) (pvF 1)))
        (pss_cons (ps_setI (pv 0) (pe_op opr_fdiv (pe_ix ixr (pvF 0) pe_int (fun _ _ => rfl)) (pvF 1)) pe_int)
        (pss_one (ps_ret (pvF 2)))))
        pss_nil)
      (pss_cons (ps_set (i := 2) nd rfl (Or.inl rfl) pe_int)
      (pss_cons (ps_for PassesOwn.never rfl (pi_range1 (by rfl) G.b_range (pa_cons (pe_op opr_add pe_int (pe_op opr_fdiv (pe_bits (pvF 1)) pe_int)) pa_nil)) (pg_name (i := 3) nd rfl (Or.inl rfl))
        (pss_cons (ps_setI (pv 0) (pe_op opr_add (pe_ix ixr (pvF 0) pe_int (fun _ _ => rfl)) pe_int) pe_int)
        (pss_one (ps_set (i := 2) nd rfl (Or.inl rfl) (pe_op opr_add (pe_op opr_mul (pvF 2) pe_int) (pe_cal C__law_hash gd (hr.mono (by first | decide | omega)) (by rfl) (pa_cons (pe_ix ixr (pvF 0) pe_int (fun _ _ => rfl)) (pa_cons (pe_ix ixr (pvF 0) pe_int (fun _ _ => rfl)) pa_nil))))))))
      (pss_one (ps_ret (pe_op opr_mod (pe_callTy callr_int (by rfl) G.b_int (by decide +kernel) (pa_cons (pvF 2) pa_nil)) (pvF 1)))))))) inferInstance ?_
  rintro gs ds Q ⟨n, b, rfl, h0, h1, ⟨x, y, z, rfl, hx, hy, hy2, hz, hn⟩, q⟩
  unfold N__law_random
  walk_at "ds"
  refine ⟨_, rfl, ?_⟩
  show if (decide (0 < x)) = true then _ else _
  by_cases hx0 : 0 < x
  · rw [decide_eq_true hx0, if_pos rfl]
    have h2 := em (a := x) h0
    exact ⟨_, rfl, h0, _, rfl, CDivW.g (big_div h0 h1), 0, rfl, _, rfl, q _ _ h2.1 h2.2 ⟨_, y, z, rfl, by show 0 ≤ x.fdiv b; rw [fdiv_pos h0]; exact Int.ediv_nonneg hx (by omega), hy, hy2, hz, by omega⟩⟩
  · rw [decide_eq_false hx0, if_neg Bool.false_ne_true]
    have h3 := big_bits h0 h1
    rw [fdiv_pos (by decide)]
    refine ⟨⟨by decide, by decide⟩, ⟨by omega, by omega⟩, ?_⟩
    refine for_g (fun xs ρ => ∃ (c dr : Int) (tn : Sl), ρ = [.g [.int x, .int y, .int c], .d (.int b), .d (.int dr), tn] ∧ 0 ≤ c ∧ c + xs.length + 1000 * (n : Int) ≤ 10 ^ 13) (fun t xs ρ h K k1 => ?_) (fun ρ h => ?_) _ _ ⟨z, 0, _, rfl, hz, ?_⟩
    · obtain ⟨c, dr, tn, rfl, h4, h5⟩ := h
      simp only [List.length_cons] at h5
      walk_at "ds"
      refine ⟨_, rfl, 2, rfl, ?_⟩
      walk_at "ds"
      refine ⟨cm2 (by decide), _, rfl, _, rfl, y, c + 1, rfl, by omega, by omega, fun r h6 h7 => ?_⟩
      exact k1 _ ⟨c + 1, _, _, rfl, by omega, by omega⟩
    · obtain ⟨c, dr, tn, rfl, h4, h5⟩ := h
      simp only [List.length_nil] at h5
      have h2 := em (a := dr) h0
      exact ⟨h0, _, rfl, q _ _ h2.1 h2.2 ⟨x, y, c, rfl, hx, hy, hy2, h4, by omega⟩⟩
    · simp [rng]
      omega
theorem ok__law_cell {f : Addr} {fd : FuncData} (F : Fun K "_law_cell" "_law_cell" s__law_cell f fd) (G : Glb mg base) : FnG P w K mg base 1 f fd ["script", "index"] (spC K) := by
  have nd := sc__law_cell.nd
  exact okG F sc__law_cell (fun vs H Q E h => by obtain ⟨a, ns, i, rfl, _⟩ := h; rfl) (fun cdv A outer s H vs Q E hg0 hr h => ⟨TCELL K, (pss_cons (ps_if (pt_cmpR opr_lt (pvF 1) (pe_callB call_len_seq (by rfl) G.b_len (by decide +kernel) (pa_cons (pvF 0) pa_nil)) (nomark _)) (pss_one (ps_ret (pe_ix ix_seq (pvF 0) (pvF 1) (fun _ _ => rfl)))) pss_nil)
    (pss_one (ps_ret (pe_op opr_mod (pe_callB (cr_sum rfl) (by rfl) G.b_sum (by decide +kernel) (pa_cons (pe_slice sl_list (pvF 0) po_none (po_some pe_int)) pa_nil)) pe_int)))), cell_body h rfl⟩)
theorem ok__law_generator {f : Addr} {fd : FuncData} (F : Fun K "_law_generator" "_law_generator" s__law_generator f fd) (G : Glb mg base) (C__law_cell : Cal P w K mg base 1 "_law_cell" ["script", "index"] (spC K)) : FnG P w K mg base 2 f fd ["script", "index"] (spS K fn_law_generator) := by
  have nd := sc__law_generator.nd
  refine mkS (k := 1) F sc__law_generator (by rintro ns ds Q ⟨_, rfl, _⟩; rfl) (fun cdv A outer s H E gd hr =>
    (pss_cons (ps_set (i := 2) nd rfl (Or.inl rfl) (pe_cal C__law_cell gd (hr.mono (by first | decide | omega)) (by rfl) (pa_cons (pvF 0) (pa_cons (pvF 1) pa_nil))))
      (pss_one (ps_ret (pe_lst (pa_cons (pe_op opr_mod (pe_callTy callr_int (by rfl) G.b_int (by decide +kernel) (pa_cons (pe_callB (callr_max2 rfl) (by rfl) G.b_max (by decide +kernel) (pa_cons (pe_op opr_sub (pvF 2) (pe_op opr_powX pe_int pe_int)) (pa_cons pe_int pa_nil))) pa_nil)) (pe_op opr_powX (pe_op opr_powX pe_int pe_int) pe_int)) (pa_cons (pe_op opr_mod (pe_callTy callr_int (by rfl) G.b_int (by decide +kernel) (pa_cons (pvF 2) pa_nil)) pe_int) (pa_cons (pe_op opr_mul pe_int (pvF 1)) pa_nil)))))))) inferInstance ?_
  rintro a u ns ds Q hsc ⟨i, rfl, h0, h1, q⟩
  unfold N__law_generator
  walk_at "ds"
  refine ⟨a, u, ns, rfl, hsc, i, rfl, h0, ⟨by decide, by decide⟩, ⟨by decide, by decide +kernel⟩, ⟨by decide, by decide +kernel⟩, (by decide +kernel : (0 : Int) < (10 ^ 60) ^ 10), (by decide : (0 : Int) < 2147483647), cm1 (by decide), ?_⟩
  have h2 := em (a := cellF ns i) (m := 2147483647) (by decide)
  exact q _ ⟨_, _, _, rfl, Int.emod_nonneg _ (by decide +kernel), h2.1, h2.2, by omega, by omega⟩
theorem ok__law_pick {f : Addr} {fd : FuncData} (F : Fun K "_law_pick" "_law_pick" s__law_pick f fd) (G : Glb mg base) (C__law_random : Cal P w K mg base 2 "_law_random" ["generator", "bound"] (spG fn_law_random)) : FnG P w K mg base 3 f fd ["generator", "things"] (spG fn_law_pick) := by
  have nd := sc__law_pick.nd
  refine mkG (k := 2) F sc__law_pick (by rintro gs ds Q ⟨_, _, rfl, _⟩; rfl) (by decide) (fun cdv A outer s H E gd hr =>
    (pss_one (ps_ret (pe_ix ixr (pvF 1) (pe_cal C__law_random gd (hr.mono (by first | decide | omega)) (by rfl) (pa_cons (pvF 0) (pa_cons (pe_callB call_lenV (by rfl) G.b_len (by decide +kernel) (pa_cons (pvF 1) pa_nil)) pa_nil))) (fun _ _ => rfl))))) inferInstance ?_
  rintro gs ds Q ⟨n, m, rfl, h0, h1, hg, q⟩
  unfold N__law_pick
  walk_at "ds"
  cases m with
  | list xs =>
    refine ⟨n, xs.length, rfl, Int.ofNat_lt.mpr h0, big_of (by have : xs.length ≤ 1000000 := h1; omega), hg, fun r gs' h2 h3 h4 => ?_⟩
    obtain ⟨e, me⟩ := getD_nat (xs := xs) h2 h3
    exact ⟨_, e, gs', rfl, q _ _ me h4⟩
  | tuple xs =>
    refine ⟨n, xs.length, rfl, Int.ofNat_lt.mpr h0, big_of (by have : xs.length ≤ 1000000 := h1; omega), hg, fun r gs' h2 h3 h4 => ?_⟩
    obtain ⟨e, me⟩ := getD_nat (xs := xs) h2 h3
    exact ⟨_, e, gs', rfl, q _ _ me h4⟩
  | str x =>
    have e0 : (menu (.str x)).length = x.length := by simp [menu, DL.signs, Str.length]
    rw [e0] at h0 h1
    refine ⟨by rw [sizeLine_eq]; omega, n, x.length, rfl, Int.ofNat_lt.mpr h0, big_of (by omega), hg, fun r gs' h2 h3 h4 => ?_⟩
    have hl : r.toNat < x.cps.toList.length := by
      have : x.length = x.cps.toList.length := by simp [Str.length]
      omega
    have e := atI_nat (xs := x.cps.toList) (j := r.toNat) (List.getElem?_eq_getElem hl)
    rw [show ((r.toNat : Nat) : Int) = r by omega] at e
    refine ⟨by rw [sizeLine_eq]; omega, _, e, gs', rfl, q _ _ ?_ h4⟩
    exact List.mem_map.mpr ⟨_, List.getElem_mem hl, rfl⟩
  | _ => exact absurd h0 (by simp [menu])
theorem ok__law_same {f : Addr} {fd : FuncData} (F : Fun K "_law_same" "_law_same" s__law_same f fd) (G : Glb mg base) {lev n : Nat} (hlev : 1 ≤ lev) (C__law_same : Cal P w K mg base lev "_law_same" ["found", "due"] (spD (fn_law_same n))) : FnG P w K mg base (lev + 1) f fd ["found", "due"] (spD (fn_law_same (n + 1))) := by
  have nd := sc__law_same.nd
  refine mkD (k := lev) F sc__law_same (by rintro ds Q ⟨_, rfl, _⟩; rfl) (fun cdv A outer s H E gd hr =>
    (pss_cons (ps_if (pt_val (pe_isi2 .list .tuple (by rfl) G.b_isinstance (by rfl) G.b_list (by decide +kernel) (by rfl) G.b_tuple (by decide +kernel) (pvF 1)))
        (pss_cons (ps_if (PW.pt (pw_or (pt_cmpR (opr_ne (hu64 hr)) (pe_isi .list (by rfl) G.b_isinstance (by rfl) G.b_list (by decide +kernel) (pvF 0)) (pe_isi .list (by rfl) G.b_isinstance (by rfl) G.b_list (by decide +kernel) (pvF 1)) (nomark _)) (pw_or1 (pt_cmpR (opr_ne (hu64 hr)) (pe_isi .tuple (by rfl) G.b_isinstance (by rfl) G.b_tuple (by decide +kernel) (pvF 0)) (pe_isi .tuple (by rfl) G.b_isinstance (by rfl) G.b_tuple (by decide +kernel) (pvF 1)) (nomark _)))))
          (pss_one (ps_ret pe_bl))
          pss_nil)
        (pss_one (ps_ret (pe_and (pe_cmpR (opr_eq (hu64 hr)) (pe_callB call_lenV (by rfl) G.b_len (by decide +kernel) (pa_cons (pvF 0) pa_nil)) (pe_callB call_lenV (by rfl) G.b_len (by decide +kernel) (pa_cons (pvF 1) pa_nil)) (nomark _)) (pe_one (pe_callB (callr_all rfl) (by rfl) G.b_all (by decide +kernel) (pa_cons (pe_lcD (own := [("one", 2), ("other", 3)]) (vs := [2, 3]) rfl rfl nd (pi_zipD (by rfl) G.b_zip (pa_cons (pvF 0) (pa_cons (pvF 1) pa_nil))) (blkOk_by (N := N__law_same) (sc := defScope s__law_same) (by decide +kernel)) (fun _ _ _ _ _ => (pg_tupD (n := 2) rfl (pgs_cons (pg_name (i := 2) nd rfl (Or.inl rfl)) (pgs_cons (pg_name (i := 3) nd rfl (Or.inl rfl)) pgs_nil)))) (fun _ _ _ _ _ => pts_nil) (fun _ _ _ _ _ => (pe_cal C__law_same gd (hr.mono (by first | decide | omega)) (by rfl) (pa_cons (pvF 2) (pa_cons (pvF 3) pa_nil))))) pa_nil)))))))
        pss_nil)
      (pss_cons (ps_if (pt_val (pe_isi .dict (by rfl) G.b_isinstance (by rfl) G.b_dict (by decide +kernel) (pvF 1)))
        (pss_cons ps_dead
        (pss_one ps_dead))
        pss_nil)
      (pss_cons (ps_if (pt_val (pe_isi .str (by rfl) G.b_isinstance (by rfl) G.b_str (by decide +kernel) (pvF 1)))
        (pss_one (ps_ret (pe_and (pe_isi .str (by rfl) G.b_isinstance (by rfl) G.b_str (by decide +kernel) (pvF 0)) (pe_one (pe_cmpR (opr_eq (hu64 hr)) (pvF 0) (pvF 1) (nomark _))))))
        pss_nil)
      (pss_cons (ps_if (pt_cmpR opr_is (pvF 1) pe_non (nomark _))
        (pss_one (ps_ret (pe_cmpR opr_is (pvF 0) pe_non (nomark _))))
        pss_nil)
      (pss_one (ps_ret (pe_and (pe_isi .int (by rfl) G.b_isinstance (by rfl) G.b_int (by decide +kernel) (pvF 0)) (pe_and (pe_cmpR (opr_eq (hu64 hr)) (pe_isi .bool (by rfl) G.b_isinstance (by rfl) G.b_bool (by decide +kernel) (pvF 0)) (pe_isi .bool (by rfl) G.b_isinstance (by rfl) G.b_bool (by decide +kernel) (pvF 1)) (nomark _)) (pe_one (pe_cmpR (opr_eq (hu64 hr)) (pvF 0) (pvF 1) (nomark _)))))))))))) inferInstance ?_
  rintro ds Q ⟨d, rfl, h, q⟩
  unfold N__law_same
  cases d with
  | dict kvs => exact h.elim
  | list xs =>
    obtain ⟨hl, hx⟩ := h
    walk_at "ds"
    show lcGo _ _ _ _ _ _ _ _
    rw [zip_self]
    have := lc_pair (i := 2) (j := 3) (te := dCall (fn_law_same n) (dCons (dVar 2) (dCons (dVar 3) dNil))) (fun _ _ => .bool true) (ρ := [Sl.d (PyData.list xs), Sl.d (PyData.list xs), Sl.no, Sl.no, Sl.no]) (by decide) (kept_no rfl) (kept_no rfl) (Q := fun xs ρ1 => dAll [PyData.list xs] fun z => Q z)
      (xs.map fun x => (x, x)) [] (fun p hp Q' q' => ?_) (by simp; omega) ?_
    · rw [List.map_map] at this
      exact this
    · obtain ⟨x, hx', rfl⟩ := List.mem_map.mp hp
      exact ⟨x, rfl, hx x hx', q'⟩
    · rw [List.nil_append, List.map_map]
      refine all_mapO (f := fun _ => true) ?_
      rw [show xs.all (fun _ => true) = true from List.all_eq_true.mpr fun _ _ => rfl]
      exact q
  | tuple xs =>
    obtain ⟨hl, hx⟩ := h
    walk_at "ds"
    show lcGo _ _ _ _ _ _ _ _
    rw [zip_self]
    have := lc_pair (i := 2) (j := 3) (te := dCall (fn_law_same n) (dCons (dVar 2) (dCons (dVar 3) dNil))) (fun _ _ => .bool true) (ρ := [Sl.d (PyData.tuple xs), Sl.d (PyData.tuple xs), Sl.no, Sl.no, Sl.no]) (by decide) (kept_no rfl) (kept_no rfl) (Q := fun xs ρ1 => dAll [PyData.list xs] fun z => Q z)
      (xs.map fun x => (x, x)) [] (fun p hp Q' q' => ?_) (by simp; omega) ?_
    · rw [List.map_map] at this
      exact this
    · obtain ⟨x, hx', rfl⟩ := List.mem_map.mp hp
      exact ⟨x, rfl, hx x hx', q'⟩
    · rw [List.nil_append, List.map_map]
      refine all_mapO (f := fun _ => true) ?_
      rw [show xs.all (fun _ => true) = true from List.all_eq_true.mpr fun _ _ => rfl]
      exact q
  | none =>
    walk_at "ds"
    exact q
  | bool b =>
    walk_at "ds"
    exact q
  | int i =>
    walk_at "ds"
    exact q
  | str x =>
    walk_at "ds"
    exact q
theorem ok__law_cells {f : Addr} {fd : FuncData} (F : Fun K "_law_cells" "_law_cells" s__law_cells f fd) (G : Glb mg base) : FnG P w K mg base 1 f fd ["grid"] (spD fn_law_cells) := by
  have nd := sc__law_cells.nd
  refine mkD (k := 0) F sc__law_cells (by rintro ds Q ⟨_, _, rfl, _⟩; rfl) (fun cdv A outer s H E gd hr =>
    (pss_cons (ps_set (i := 1) nd rfl (Or.inl rfl) (pe_lst pa_nil))
      (pss_cons (ps_for PassesOwn.never rfl (pi_range1 (by rfl) G.b_range (pa_cons (pe_ix ixr (pvF 0) pe_int (fun _ _ => rfl)) pa_nil)) (pg_name (i := 2) nd rfl (Or.inr rfl))
        (pss_one (ps_set (i := 1) nd rfl (Or.inl rfl) (pe_op opr_add (pvF 1) (pe_lcD (own := [("column", 3)]) (vs := [3]) rfl rfl nd (pi_range1 (by rfl) G.b_range (pa_cons (pe_ix ixr (pvF 0) pe_int (fun _ _ => rfl)) pa_nil)) (blkOk_by (N := N__law_cells) (sc := defScope s__law_cells) (by decide +kernel)) (fun _ _ _ _ _ => (pg_name (i := 3) nd rfl (Or.inl rfl))) (fun _ _ _ _ _ => pts_nil) (fun _ _ _ _ _ => (pe_tup (pa_cons (pvF 2) (pa_cons (pvF 3) pa_nil)))))))))
      (pss_one (ps_ret (pvF 1)))))) inferInstance ?_
  rintro ds Q ⟨R, C, rfl, ⟨a1, a2, a3, a4⟩, q⟩
  unfold N__law_cells gridD
  walk_at "ds"
  refine ⟨⟨by omega, by omega⟩, ?_⟩
  rw [cells_rng] at q
  refine for_g (fun rest ρ => ∃ (acc : List PyData) (s1 s2 : Sl), ρ = [.d (.tuple [W "grid", .int R, .int C]), s1, s2, .no] ∧ (s1 = .l acc ∨ s1 = .d (.list acc)) ∧ acc ++ (rest.flatMap fun x => ((rng 0 (C : Int)).filter fun _ => true).map fun y => .tuple [x, y]) = ((rng 0 (R : Int)).flatMap fun x => ((rng 0 (C : Int)).filter fun _ => true).map fun y => .tuple [x, y]) ∧ acc.length + 100 * rest.length ≤ 10000) (fun x rest ρ hW K hK => ?_) (fun ρ hW => ?_) _ _ ⟨[], _, _, rfl, .inl rfl, rfl, by rw [rng_length]; simp; omega⟩
  · obtain ⟨acc, s1, s2, rfl, h3, h1, h2⟩ := hW
    simp only [List.length_cons] at h2
    have hln : (rng 0 (C : Int)).length ≤ 100 := by rw [rng_length]; omega
    have fin : (acc ++ (rng 0 (C : Int)).map fun y => PyData.tuple [x, y]) ++ (rest.flatMap fun x => ((rng 0 (C : Int)).filter fun _ => true).map fun y => .tuple [x, y]) = ((rng 0 (R : Int)).flatMap fun x => ((rng 0 (C : Int)).filter fun _ => true).map fun y => .tuple [x, y]) := by
      rw [← h1, List.flatMap_cons, List.append_assoc, filter_true]
    rcases h3 with rfl | rfl <;> (
      walk_at "ds"
      refine ⟨⟨by omega, by omega⟩, ?_⟩
      refine lc_map (fun y => .tuple [x, y]) (kept_no rfl) _ (fun y hy Q' q' => ⟨(by rw [sizeLine_eq]; simp), q'⟩) (by omega) ?_
      walk_at "ds"
      exact ⟨by rw [sizeLine_eq, List.length_map]; omega, hK _ ⟨_, _, _, rfl, .inr rfl, fin, by rw [List.length_append, List.length_map]; omega⟩⟩)
  · obtain ⟨acc, s1, s2, rfl, h3, h1, h2⟩ := hW
    simp only [List.flatMap_nil, List.append_nil] at h1
    subst h1
    rcases h3 with rfl | rfl <;> exact q
theorem ok__law_grid {f : Addr} {fd : FuncData} (F : Fun K "_law_grid" "_law_grid" s__law_grid f fd) (G : Glb mg base) (C__law_random : Cal P w K mg base 2 "_law_random" ["generator", "bound"] (spG fn_law_random)) : FnG P w K mg base 3 f fd ["generator", "most"] (spG fn_law_grid) := by
  have nd := sc__law_grid.nd
  refine mkG (k := 2) F sc__law_grid (by rintro gs ds Q ⟨_, rfl, _⟩; rfl) (by decide) (fun cdv A outer s H E gd hr =>
    (pss_cons (ps_set (i := 2) nd rfl (Or.inl rfl) (pe_op opr_add pe_int (pe_cal C__law_random gd (hr.mono (by first | decide | omega)) (by rfl) (pa_cons (pvF 0) (pa_cons (pe_callB (callr_min2 rfl) (by rfl) G.b_min (by decide +kernel) (pa_cons pe_int (pa_cons (pvF 1) pa_nil))) pa_nil)))))
      (pss_one (ps_ret (pe_tup (pa_cons pe_str (pa_cons (pvF 2) (pa_cons (pe_op opr_add pe_int (pe_cal C__law_random gd (hr.mono (by first | decide | omega)) (by rfl) (pa_cons (pvF 0) (pa_cons (pe_callB (callr_max2 rfl) (by rfl) G.b_max (by decide +kernel) (pa_cons pe_int (pa_cons (pe_op opr_fdiv (pvF 1) (pvF 2)) pa_nil))) pa_nil)))) pa_nil)))))))) inferInstance ?_
  rintro gs ds Q ⟨n, rfl, hg, q⟩
  unfold N__law_grid
  walk_at "ds"
  refine ⟨n + 1, _, rfl, by decide, by decide, hg, fun r gs1 h0 h1 hg1 => ?_⟩
  have h1' : r < 6 := h1
  walk_at "ds"
  obtain ⟨R, hR, hRl, hRu⟩ : ∃ R : Nat, 1 + r = (R : Int) ∧ 1 ≤ R ∧ R ≤ 6 := ⟨(1 + r).toNat, by omega, by omega, by omega⟩
  rw [hR]
  have hd : 0 ≤ (36 : Int) / R ∧ (36 : Int) / R ≤ 36 := ⟨Int.ediv_nonneg (by decide) (by omega), Int.ediv_le_self _ (by decide)⟩
  have hf : (36 : Int).fdiv R = (36 : Int) / R := fdiv_pos (by omega)
  refine ⟨⟨by omega, Nat.lt_of_le_of_lt (Nat.log2_le_self _) (by omega)⟩, ?_⟩
  rw [hf]
  have hb : 1 ≤ (if (36 : Int) / R > 1 then (36 : Int) / R else 1) ∧ (if (36 : Int) / R > 1 then (36 : Int) / R else 1) ≤ 36 := by split <;> omega
  refine ⟨n, _, rfl, by omega, big_of (by omega), hg1, fun c gs2 c0 c1 hg2 => ?_⟩
  obtain ⟨C, hC, hCl, hCu⟩ : ∃ C : Nat, 1 + c = (C : Int) ∧ 1 ≤ C ∧ C ≤ 36 := ⟨(1 + c).toNat, by omega, by omega, by omega⟩
  walk_at "ds"
  rw [hC]
  exact ⟨gs2, rfl, q R C gs2 ⟨by omega, by omega, by omega, by omega⟩ hg2⟩
theorem ok__law_plain {f : Addr} {fd : FuncData} (F : Fun K "_law_plain" "_law_plain" s__law_plain f fd) (G : Glb mg base) (C__law_cells : Cal P w K mg base 1 "_law_cells" ["grid"] (spD fn_law_cells)) (C__law_random : Cal P w K mg base 2 "_law_random" ["generator", "bound"] (spG fn_law_random)) (C__law_pick : Cal P w K mg base 3 "_law_pick" ["generator", "things"] (spG fn_law_pick)) : FnG P w K mg base 4 f fd ["generator", "grid"] (spG fn_law_plain) := by
  have nd := sc__law_plain.nd
  refine mkG (k := 3) F sc__law_plain (by rintro gs ds Q ⟨_, _, _, rfl, _⟩; rfl) (by decide) (fun cdv A outer s H E gd hr =>
    (pss_cons (ps_set (i := 2) nd rfl (Or.inl rfl) (pe_cal C__law_cells gd (hr.mono (by first | decide | omega)) (by rfl) (pa_cons (pvF 1) pa_nil)))
      (pss_cons (ps_par3 (i := 3) (j := 4) (l := 5) rfl nd rfl rfl rfl (by decide) (by decide) (by decide) rfl rfl rfl (pa_cons (pe_cal C__law_pick gd (hr.mono (by first | decide | omega)) (by rfl) (pa_cons (pvF 0) (pa_cons (pvF 2) pa_nil))) (pa_cons (pe_cal C__law_pick gd (hr.mono (by first | decide | omega)) (by rfl) (pa_cons (pvF 0) (pa_cons (pvF 2) pa_nil))) (pa_cons (pe_cal C__law_random gd (hr.mono (by first | decide | omega)) (by rfl) (pa_cons (pvF 0) (pa_cons pe_int pa_nil))) pa_nil))) (by rfl))
      (pss_cons (ps_if (pt_cmpR opr_lt (pvF 5) pe_int (nomark _))
        (pss_one (ps_ret (pe_ifExp (pt_cmpR (opr_eq (hu64 hr)) (pvF 5) pe_int (nomark _)) (pe_tup (pa_cons pe_str (pa_cons (pe_ix ixr (pvF 3) pe_int (fun _ _ => rfl)) pa_nil))) (pe_tup (pa_cons pe_str (pa_cons (pe_ix ixr (pvF 3) pe_int (fun _ _ => rfl)) pa_nil))))))
        pss_nil)
      (pss_cons (ps_if (pt_cmpR opr_lt (pvF 5) pe_int (nomark _))
        (pss_one (ps_ret (pe_tup (pa_cons (pe_ifExp (pt_cmpR (opr_eq (hu64 hr)) (pvF 5) pe_int (nomark _)) pe_str pe_str) (pa_cons (pvF 3) (pa_cons (pe_cal C__law_random gd (hr.mono (by first | decide | omega)) (by rfl) (pa_cons (pvF 0) (pa_cons pe_int pa_nil))) pa_nil))))))
        pss_nil)
      (pss_one (ps_ret (pe_tup (pa_cons pe_str (pa_cons (pvF 3) (pa_cons (pvF 4) pa_nil))))))))))) inferInstance ?_
  rintro gs ds Q ⟨n, R, C, rfl, hg, hgn, q⟩
  unfold N__law_plain
  refine seq_step fun K1 hK1 => ?_
  walk_at "ds"
  refine ⟨R, C, rfl, hg, hK1 _ ?_⟩
  clear hK1
  refine seq_step fun K2 hK2 => ?_
  walk_at "ds"
  have hcl := cells_len hg
  have hc0 := cells_pos hg
  have em : (menu (.list (cellsD R C))).length = (cells R C).length := by show (cellsD R C).length = _; unfold cellsD; rw [List.length_map]
  refine ⟨n + 3, _, rfl, by rw [em]; exact hc0, by rw [em]; omega, hgn, fun d gs1 hd hg1 => ?_⟩
  obtain ⟨p, hp, rfl⟩ := cells_mem hg hd
  refine ⟨n + 2, _, rfl, by rw [em]; exact hc0, by rw [em]; omega, hg1, fun d gs2 hd hg2 => ?_⟩
  obtain ⟨p', hp', rfl⟩ := cells_mem hg hd
  refine ⟨n + 1, 5, rfl, by decide, big_of (by decide), hg2, fun way gs3 h0 h1 hg3 => hK2 _ ?_⟩
  clear hK2
  obtain ⟨a1, a2, a3, a4⟩ := hp
  unfold pairP
  walk_at "ds"
  split
  · split
    · exact ⟨gs3, rfl, q (.row p.1) gs3 ⟨a1, a2⟩ rfl (hg3.le (by omega))⟩
    · exact ⟨gs3, rfl, q (.col p.2) gs3 ⟨a3, a4⟩ rfl (hg3.le (by omega))⟩
  · split
    · split
      · exact ⟨n, 4, rfl, by decide, big_of (by decide), hg3, fun k gs4 k0 k1 hg4 => ⟨gs4, rfl, q (.near false p k) gs4 ⟨⟨a1, a2, a3, a4⟩, k0, by omega⟩ rfl hg4⟩⟩
      · exact ⟨n, 4, rfl, by decide, big_of (by decide), hg3, fun k gs4 k0 k1 hg4 => ⟨gs4, rfl, q (.near true p k) gs4 ⟨⟨a1, a2, a3, a4⟩, k0, by omega⟩ rfl hg4⟩⟩
    · exact ⟨gs3, rfl, q (.betw p p') gs3 ⟨⟨a1, a2, a3, a4⟩, hp'⟩ rfl (hg3.le (by omega))⟩
theorem ok__law_clue {f : Addr} {fd : FuncData} (F : Fun K "_law_clue" "_law_clue" s__law_clue f fd) (G : Glb mg base) {lev n : Nat} (hlev : 5 ≤ lev) (C__law_clue : Cal P w K mg base lev "_law_clue" ["generator", "grid", "deep"] (spG (fn_law_clue n))) (C__law_random : Cal P w K mg base 2 "_law_random" ["generator", "bound"] (spG fn_law_random)) (C__law_plain : Cal P w K mg base 4 "_law_plain" ["generator", "grid"] (spG fn_law_plain)) : FnG P w K mg base (lev + 1) f fd ["generator", "grid", "deep"] (spG (fn_law_clue (n + 1))) := by
  have nd := sc__law_clue.nd
  refine mkG (k := lev) F sc__law_clue (by rintro gs ds Q ⟨_, _, _, _, rfl, _⟩; rfl) (by decide) (fun cdv A outer s H E gd hr =>
    (pss_cons (ps_set (i := 3) nd rfl (Or.inl rfl) (pe_ifExp (pt_cmpR opr_gt (pvF 2) pe_int (nomark _)) (pe_cal C__law_random gd (hr.mono (by first | decide | omega)) (by rfl) (pa_cons (pvF 0) (pa_cons pe_int pa_nil))) pe_int))
      (pss_cons (ps_if (pt_cmpR opr_lt (pvF 3) pe_int (nomark _))
        (pss_one (ps_ret (pe_cal C__law_plain gd (hr.mono (by first | decide | omega)) (by rfl) (pa_cons (pvF 0) (pa_cons (pvF 1) pa_nil)))))
        pss_nil)
      (pss_cons (ps_if (pt_cmpR (opr_eq (hu64 hr)) (pvF 3) pe_int (nomark _))
        (pss_one (ps_ret (pe_tup (pa_cons pe_str (pa_cons (pe_cal C__law_clue gd (hr.mono (by first | decide | omega)) (by rfl) (pa_cons (pvF 0) (pa_cons (pvF 1) (pa_cons (pe_op opr_sub (pvF 2) pe_int) pa_nil)))) pa_nil)))))
        pss_nil)
      (pss_one (ps_ret (pe_tup (pa_cons (pe_ifExp (pt_cmpR (opr_eq (hu64 hr)) (pvF 3) pe_int (nomark _)) pe_str pe_str) (pa_cons (pe_cal C__law_clue gd (hr.mono (by first | decide | omega)) (by rfl) (pa_cons (pvF 0) (pa_cons (pvF 1) (pa_cons (pe_op opr_sub (pvF 2) pe_int) pa_nil)))) (pa_cons (pe_cal C__law_clue gd (hr.mono (by first | decide | omega)) (by rfl) (pa_cons (pvF 0) (pa_cons (pvF 1) (pa_cons (pe_op opr_sub (pvF 2) pe_int) pa_nil)))) pa_nil)))))))))) inferInstance ?_
  rintro gs ds Q ⟨m, R, C, k, rfl, hg, hk, hgn, q⟩
  unfold N__law_clue
  refine seq_step fun K1 hK1 => ?_
  suffices h : ∀ (way : Int) gs', 0 ≤ way → (k = 0 → way = 0) → Gen (m + (10 * 3 ^ k - 1)) gs' → K1 [.g gs', .d (gridD R C), .d (.int k), .d (.int way)] by
    have hp3 : 0 < 3 ^ k := Nat.pow_pos (by decide)
    walk_at "ds"
    split
    · rename_i hk0
      exact ⟨m + (10 * 3 ^ k - 1), 6, rfl, by decide, big_of (by decide), hgn.le (by omega), fun way gs' w0 w1 hg' => h way gs' w0 (fun z => by omega) hg'⟩
    · exact h 0 gs (Int.le_refl _) (fun _ => rfl) (hgn.le (by omega))
  intro way gs1 hw0 hk0 hg1
  refine hK1 _ ?_
  clear hK1
  have hpl : ∀ c : Clue, plain c = true → c.deep = 0 ∧ c.size = 1 := fun c hc => by cases c <;> first | exact ⟨rfl, rfl⟩ | cases hc
  cases k with
  | zero =>
    rw [hk0 rfl]
    walk_at "ds"
    exact ⟨m, R, C, rfl, hg, hg1.le (by simp), fun c gs2 hw hp hg2 => ⟨gs2, rfl, q c gs2 hw (by rw [(hpl c hp).1]; exact Nat.le_refl _) (by rw [(hpl c hp).2]; decide) hg2⟩⟩
  | succ k =>
    have e3 : 3 ^ (k + 1) = 3 * 3 ^ k := by rw [Nat.pow_succ]; omega
    have e2 : 2 ^ (k + 1 + 1) = 2 * 2 ^ (k + 1) := by rw [Nat.pow_succ]; omega
    have hp3 : 0 < 3 ^ k := Nat.pow_pos (by decide)
    have hp2 : 2 ≤ 2 ^ (k + 1) := by rw [Nat.pow_succ]; have := Nat.one_le_two_pow (n := k); omega
    have ek : (((k + 1 : Nat) : Int) - 1) = (k : Int) := by omega
    rw [e3] at hg1
    walk_at "ds"
    rw [ek]
    split
    · exact ⟨m, R, C, rfl, hg, hg1.le (by omega), fun c gs2 hw hp hg2 => ⟨gs2, rfl, q c gs2 hw (by rw [(hpl c hp).1]; omega) (by rw [(hpl c hp).2]; omega) hg2⟩⟩
    · split
      · exact ⟨m, R, C, k, rfl, hg, by omega, hg1.le (by omega), fun c gs2 hw hd hs hg2 => ⟨gs2, rfl, q (.neg c) gs2 hw (by simp only [Clue.deep]; omega) (by simp only [Clue.size]; omega) hg2⟩⟩
      · split
        · exact ⟨m + 10 * 3 ^ k, R, C, k, rfl, hg, by omega, hg1.le (by omega), fun c gs2 hw hd hs hg2 => ⟨m, R, C, k, rfl, hg, by omega, hg2, fun c' gs3 hw' hd' hs' hg3 =>
            ⟨gs3, rfl, q (.two false c c') gs3 ⟨hw, hw'⟩ (by simp only [Clue.deep]; omega) (by simp only [Clue.size]; omega) hg3⟩⟩⟩
        · exact ⟨m + 10 * 3 ^ k, R, C, k, rfl, hg, by omega, hg1.le (by omega), fun c gs2 hw hd hs hg2 => ⟨m, R, C, k, rfl, hg, by omega, hg2, fun c' gs3 hw' hd' hs' hg3 =>
            ⟨gs3, rfl, q (.two true c c') gs3 ⟨hw, hw'⟩ (by simp only [Clue.deep]; omega) (by simp only [Clue.size]; omega) hg3⟩⟩⟩
theorem ok__law_holds {f : Addr} {fd : FuncData} (F : Fun K "_law_holds" "_law_holds" s__law_holds f fd) (G : Glb mg base) {lev n : Nat} (hlev : 1 ≤ lev) (C__law_holds : Cal P w K mg base lev "_law_holds" ["clue", "cell"] (spD (fn_law_holds n))) : FnG P w K mg base (lev + 1) f fd ["clue", "cell"] (spD (fn_law_holds (n + 1))) := by
  have nd := sc__law_holds.nd
  refine mkD (k := lev) F sc__law_holds (by rintro ds Q ⟨_, _, rfl, _⟩; rfl) (fun cdv A outer s H E gd hr =>
    (pss_cons (ps_set (i := 2) nd rfl (Or.inl rfl) (pe_ix ixr (pvF 0) pe_int (fun _ _ => rfl)))
      (pss_cons (ps_if (pt_cmpR (opr_eq (hu64 hr)) (pvF 2) pe_str (nomark _))
        (pss_one (ps_ret (pe_not (pe_cal C__law_holds gd (hr.mono (by first | decide | omega)) (by rfl) (pa_cons (pe_ix ixr (pvF 0) pe_int (fun _ _ => rfl)) (pa_cons (pvF 1) pa_nil))))))
        pss_nil)
      (pss_cons (ps_if (pt_cmpR (opr_in (hu65 hr)) (pvF 2) (pe_lst (pa_cons pe_str (pa_cons pe_str pa_nil))) (by rfl))
        (pss_cons (ps_set (i := 3) nd rfl (Or.inl rfl) (pe_lst (pa_cons (pe_cal C__law_holds gd (hr.mono (by first | decide | omega)) (by rfl) (pa_cons (pe_ix ixr (pvF 0) pe_int (fun _ _ => rfl)) (pa_cons (pvF 1) pa_nil))) (pa_cons (pe_cal C__law_holds gd (hr.mono (by first | decide | omega)) (by rfl) (pa_cons (pe_ix ixr (pvF 0) pe_int (fun _ _ => rfl)) (pa_cons (pvF 1) pa_nil))) pa_nil))))
        (pss_one (ps_ret (pe_ifExp (pt_cmpR (opr_eq (hu64 hr)) (pvF 2) pe_str (nomark _)) (pe_cmpR (opr_nin (hu65 hr)) pe_bl (pvF 3) (by rfl)) (pe_cmpR (opr_in (hu65 hr)) pe_bl (pvF 3) (by rfl))))))
        pss_nil)
      (pss_cons (ps_if (pt_cmpR (opr_eq (hu64 hr)) (pvF 2) pe_str (nomark _))
        (pss_one (ps_ret (pe_cmpR (opr_eq (hu64 hr)) (pe_ix ixr (pvF 1) pe_int (fun _ _ => rfl)) (pe_ix ixr (pvF 0) pe_int (fun _ _ => rfl)) (nomark _))))
        pss_nil)
      (pss_cons (ps_if (pt_cmpR (opr_eq (hu64 hr)) (pvF 2) pe_str (nomark _))
        (pss_one (ps_ret (pe_cmpR (opr_eq (hu64 hr)) (pe_ix ixr (pvF 1) pe_int (fun _ _ => rfl)) (pe_ix ixr (pvF 0) pe_int (fun _ _ => rfl)) (nomark _))))
        pss_nil)
      (pss_cons (ps_if (pt_cmpR (opr_eq (hu64 hr)) (pvF 2) pe_str (nomark _))
        (pss_cons (ps_par (i := 4) (j := 5) rfl nd rfl rfl (by decide) rfl rfl (pa_cons (pe_callB callr_sortX (by rfl) G.b_sorted (by decide +kernel) (pa_cons (pe_lst (pa_cons (pe_ix ixr (pe_ix ixr (pvF 0) pe_int (fun _ _ => rfl)) pe_int (fun _ _ => rfl)) (pa_cons (pe_ix ixr (pe_ix ixr (pvF 0) pe_int (fun _ _ => rfl)) pe_int (fun _ _ => rfl)) pa_nil))) pa_nil)) (pa_cons (pe_callB callr_sortX (by rfl) G.b_sorted (by decide +kernel) (pa_cons (pe_lst (pa_cons (pe_ix ixr (pe_ix ixr (pvF 0) pe_int (fun _ _ => rfl)) pe_int (fun _ _ => rfl)) (pa_cons (pe_ix ixr (pe_ix ixr (pvF 0) pe_int (fun _ _ => rfl)) pe_int (fun _ _ => rfl)) pa_nil))) pa_nil)) pa_nil)) (by rfl))
        (pss_one (ps_ret (pe_and (pe_chain opr_le opr_le (pe_ix ixr (pvF 4) pe_int (fun _ _ => rfl)) (pe_ix ixr (pvF 1) pe_int (fun _ _ => rfl)) (pe_ix ixr (pvF 4) pe_int (fun _ _ => rfl))) (pe_one (pe_chain opr_le opr_le (pe_ix ixr (pvF 5) pe_int (fun _ _ => rfl)) (pe_ix ixr (pvF 1) pe_int (fun _ _ => rfl)) (pe_ix ixr (pvF 5) pe_int (fun _ _ => rfl))))))))
        pss_nil)
      (pss_cons (ps_set (i := 6) nd rfl (Or.inl rfl) (pe_op opr_add (pe_callB callr_abs (by rfl) G.b_abs (by decide +kernel) (pa_cons (pe_op opr_sub (pe_ix ixr (pvF 1) pe_int (fun _ _ => rfl)) (pe_ix ixr (pe_ix ixr (pvF 0) pe_int (fun _ _ => rfl)) pe_int (fun _ _ => rfl))) pa_nil)) (pe_callB callr_abs (by rfl) G.b_abs (by decide +kernel) (pa_cons (pe_op opr_sub (pe_ix ixr (pvF 1) pe_int (fun _ _ => rfl)) (pe_ix ixr (pe_ix ixr (pvF 0) pe_int (fun _ _ => rfl)) pe_int (fun _ _ => rfl))) pa_nil))))
      (pss_one (ps_ret (pe_ifExp (pt_cmpR (opr_eq (hu64 hr)) (pvF 2) pe_str (nomark _)) (pe_cmpR opr_le (pvF 6) (pe_ix ixr (pvF 0) pe_int (fun _ _ => rfl)) (nomark _)) (pe_cmpR opr_gt (pvF 6) (pe_ix ixr (pvF 0) pe_int (fun _ _ => rfl)) (nomark _))))))))))))) inferInstance ?_
  rintro ds Q ⟨c, p, rfl, hd, q⟩
  unfold N__law_holds
  have hin : ∀ {x : String} {Q : PyData → Prop}, PyData.strOk (Str.ofString x) = true → Q (.bool (decide (Str.ofString "both" = Str.ofString x) || decide (Str.ofString "either" = Str.ofString x))) → dIn false (.str (Str.ofString x)) (.list [.str (Str.ofString "both"), .str (Str.ofString "either")]) Q := fun h q => in_s2 h (by decide +kernel) (by decide +kernel) q
  cases c with
  | neg x =>
    simp only [Clue.toD, W]
    walk_at "ds"
    exact ⟨x, p, rfl, by simp only [Clue.deep] at hd; omega, q⟩
  | two f x y =>
    simp only [Clue.deep] at hd
    cases f with
    | false =>
      simp only [Clue.toD, W]
      walk_at "ds"
      refine hin (by decide +kernel) ?_
      walk_at "ds"
      refine ⟨x, p, rfl, by omega, y, p, rfl, by omega, ?_⟩
      refine in_bools (bs := [holds x p, holds y p]) ?_
      simp only [holds] at q
      cases hx : holds x p <;> cases hy : holds y p <;> rw [hx, hy] at q <;> exact q
    | true =>
      simp only [Clue.toD, W]
      walk_at "ds"
      refine hin (by decide +kernel) ?_
      walk_at "ds"
      refine ⟨x, p, rfl, by omega, y, p, rfl, by omega, ?_⟩
      refine in_bools (bs := [holds x p, holds y p]) ?_
      simp only [holds] at q
      cases hx : holds x p <;> cases hy : holds y p <;> rw [hx, hy] at q <;> exact q
  | row i =>
    simp only [Clue.toD, W, pairP]
    walk_at "ds"
    refine hin (by decide +kernel) ?_
    walk_at "ds"
    exact q
  | col i =>
    simp only [Clue.toD, W, pairP]
    walk_at "ds"
    refine hin (by decide +kernel) ?_
    walk_at "ds"
    exact q
  | near f p' k =>
    cases f with
    | false =>
      simp only [Clue.toD, W, pairP]
      walk_at "ds"
      refine hin (by decide +kernel) ?_
      walk_at "ds"
      exact q
    | true =>
      simp only [Clue.toD, W, pairP]
      walk_at "ds"
      refine hin (by decide +kernel) ?_
      walk_at "ds"
      exact q
  | betw a b =>
    simp only [Clue.toD, W, pairP]
    walk_at "ds"
    refine hin (by decide +kernel) ?_
    walk_at "ds"
    refine .inl (.inl ⟨[a.1, b.1], rfl, by simp, fun ns hp1 hs1 => .inl (.inl ⟨[a.2, b.2], rfl, by simp, fun ms hp2 hs2 => ?_⟩)⟩)
    rw [sort2 hp1 hs1, sort2 hp2 hs2]
    refine ⟨_, atI_nat (j := 0) rfl, ?_⟩
    walk_at "ds"
    simp only [holds, btw] at q
    have e1 := atI_nat (xs := [PyData.int (min a.1 b.1), PyData.int (max a.1 b.1)]) (j := 1) rfl
    have e2 := atI_nat (xs := [PyData.int (min a.2 b.2), PyData.int (max a.2 b.2)]) (j := 0) rfl
    have e3 := atI_nat (xs := [PyData.int (min a.2 b.2), PyData.int (max a.2 b.2)]) (j := 1) rfl
    cases h1 : decide (min a.1 b.1 ≤ p.1) with
    | false => rw [h1] at q; exact q
    | true =>
      rw [h1] at q
      refine ⟨_, e1, ?_⟩
      show match PyData.bool (decide (p.1 ≤ max a.1 b.1)) with
        | .bool true => _
        | .bool false => _
        | _ => False
      cases h2 : decide (p.1 ≤ max a.1 b.1) with
      | false => rw [h2] at q; exact q
      | true =>
        rw [h2] at q
        refine ⟨_, e2, ?_⟩
        show match PyData.bool (decide (min a.2 b.2 ≤ p.2)) with
          | .bool true => _
          | .bool false => _
          | _ => False
        cases h3 : decide (min a.2 b.2 ≤ p.2) with
        | false => rw [h3] at q; exact q
        | true =>
          rw [h3] at q
          exact ⟨_, e3, q⟩
theorem ok__law_left {f : Addr} {fd : FuncData} (F : Fun K "_law_left" "_law_left" s__law_left f fd) (G : Glb mg base) (C__law_holds : Cal P w K mg base 7 "_law_holds" ["clue", "cell"] (spD (fn_law_holds 6))) (C__law_cells : Cal P w K mg base 1 "_law_cells" ["grid"] (spD fn_law_cells)) : FnG P w K mg base 8 f fd ["grid", "clues"] (spN fn_law_left) := by
  have nd := sc__law_left.nd
  refine mkN (k := 7) F sc__law_left (by rintro ds Q ⟨_, _, _, rfl, _⟩; rfl) (fun cdv A outer s H E gd hr =>
    (pss_one (ps_ret (pe_lcD (own := [("cell", 2)]) (vs := [2]) rfl rfl nd (pi_any (pe_cal C__law_cells gd (hr.mono (by first | decide | omega)) (by rfl) (pa_cons (pvF 0) pa_nil))) (blkOk_by (N := N__law_left) (sc := defScope s__law_left) (by decide +kernel)) (fun _ _ _ _ _ => (pg_name (i := 2) nd rfl (Or.inr rfl))) (fun _ _ _ _ _ => (pts_one (pt_cmpR (opr_eq (hu64 hr)) (pe_lcD (own := [("clue", 3)]) (vs := [3]) rfl rfl nd (pi_any (pvF 1)) (blkOk_by (N := N__law_left) (by kernel_rfl)) (fun _ _ _ _ _ => (pg_name (i := 3) nd rfl (Or.inl rfl))) (fun _ _ _ _ _ => (pts_one (pt_not (pt_val (pe_cal C__law_holds gd (hr.mono (by first | decide | omega)) (by rfl) (pa_cons (pvF 3) (pa_cons (pvF 2) pa_nil))))))) (fun _ _ _ _ _ => (pvF 3))) (pe_lst pa_nil) (nomark _)))) (fun _ _ _ _ _ => (pvF 2)))))) inferInstance ?_
  rintro ds Q ⟨R, C, cs, rfl, hg, ⟨hl, hc⟩, q⟩
  unfold N__law_left cluesD
  walk_at "ds"
  refine ⟨R, C, rfl, hg, ?_⟩
  show lcGo _ _ _ _ _ _ _ _
  rw [← left_filter] at q
  refine lc_filter (keepB cs) (kept_no rfl) _ (fun x hx Q' q' => ?_) (fun x hx Q' q' => q') ?_ q
  · obtain ⟨p, hp, rfl⟩ := List.mem_map.mp hx
    walk_at "ds"
    refine lc_filterO Clue.toD (fun c => !holds c p) (kept_no rfl) cs (fun c hc' Q' q' => ?_) (fun c hc' Q' q' => q') (by omega) ?_
    · exact ⟨c, p, rfl, (hc c hc').2.2, q'⟩
    · refine eq_nil (fun d hd => ?_) ?_
      · obtain ⟨c, hc', rfl⟩ := List.mem_map.mp hd
        have hcc := hc c (List.mem_filter.mp hc').1
        exact (Clue.gw hcc.1 hg).lay (by have := hcc.2.2; omega)
      · rw [none_all]
        exact q'
  · unfold cellsD
    rw [List.length_map]
    have := cells_len hg
    omega
theorem ok__law_word {f : Addr} {fd : FuncData} (F : Fun K "_law_word" "_law_word" s__law_word f fd) (G : Glb mg base) (C__law_left : Cal P w K mg base 8 "_law_left" ["grid", "clues"] (spN fn_law_left)) (C__law_holds : Cal P w K mg base 7 "_law_holds" ["clue", "cell"] (spD (fn_law_holds 6))) : FnG P w K mg base 9 f fd ["grid", "clues", "clue"] (spD fn_law_word) := by
  have nd := sc__law_word.nd
  refine mkD (k := 8) F sc__law_word (by rintro ds Q ⟨_, _, _, _, rfl, _⟩; rfl) (fun cdv A outer s H E gd hr =>
    (pss_cons (ps_setLcD (i := 3) rfl rfl (sw_true rfl rfl rfl (by decide +kernel)) (own := [("cell", 4)]) (vs := [4]) rfl rfl nd (pi_any (pe_cal C__law_left gd (hr.mono (by first | decide | omega)) (by rfl) (pa_cons (pvF 0) (pa_cons (pvF 1) pa_nil)))) (blkOk_by (N := N__law_word) (sc := defScope s__law_word) (by decide +kernel)) (fun _ _ _ _ _ => (pg_name (i := 4) nd rfl (Or.inl rfl))) (fun _ _ _ _ _ => pts_nil) (fun _ _ _ _ _ => (pe_cal C__law_holds gd (hr.mono (by first | decide | omega)) (by rfl) (pa_cons (pvF 2) (pa_cons (pvF 4) pa_nil)))))
      (pss_one (ps_ret (pe_ifExp (pt_cmpR (opr_eq (hu64 hr)) (pvF 3) (pe_lst pa_nil) (nomark _)) pe_non (pe_ifExp (pt_cmpR (opr_nin (hu65 hr)) pe_bl (pvF 3) (by rfl)) pe_str (pe_ifExp (pt_cmpR (opr_in (hu65 hr)) pe_bl (pvF 3) (by rfl)) pe_str pe_str))))))) inferInstance ?_
  rintro ds Q ⟨R, C, cs, c, rfl, hg, hc, ⟨ho1, ho2, ho3⟩, q⟩
  unfold N__law_word
  walk_at "ds"
  refine ⟨R, C, cs, rfl, hg, hc, ?_⟩
  show lcGo _ _ _ _ _ _ _ _
  unfold leftD
  have hl := left_len hg cs
  unfold wordD at q
  generalize leftP R C cs = ps at q hl ⊢
  refine lc_mapO pairP (fun p => .bool (holds c p)) (kept_no rfl) ps (fun p hp Q' q' => ⟨c, p, rfl, ho3, q'⟩) (by omega) ?_
  walk_at "ds"
  refine ⟨shaped_lays (fun d hd => ?_), ?_⟩
  · obtain ⟨p, _, rfl⟩ := List.mem_map.mp hd
    exact ⟨by simp [PyData.canLay0], by simp [PyData.depth]⟩
  rw [isNil_map]
  have em : (ps.map fun p => PyData.bool (holds c p)) = (ps.map (holds c)).map .bool := by rw [List.map_map]; rfl
  cases he : ps.isEmpty with
  | true => rw [he] at q; exact q
  | false =>
    rw [he] at q
    rw [if_neg Bool.false_ne_true] at q ⊢
    rw [em]
    refine in_bools ?_
    rw [if_pos rfl, any_false, Bool.not_not]
    cases ha : ps.all (holds c) with
    | true => rw [ha] at q; exact q
    | false =>
      rw [ha] at q
      rw [if_neg Bool.false_ne_true] at q
      simp only [Bool.false_eq_true, reduceIte]
      refine in_bools ?_
      rw [if_neg Bool.false_ne_true, any_true]
      cases hb : ps.any (holds c) with
      | true => rw [hb] at q; exact q
      | false => rw [hb] at q; exact q
theorem ok__law_right {f : Addr} {fd : FuncData} (F : Fun K "_law_right" "_law_right" s__law_right f fd) (G : Glb mg base) (C__law_left : Cal P w K mg base 8 "_law_left" ["grid", "clues"] (spN fn_law_left)) (C_cells_left : Cal P w K mg base 10 "cells_left" ["grid", "clues"] (spN fn_cells_left)) (C__law_same : Cal P w K mg base 13 "_law_same" ["found", "due"] (spD (fn_law_same 12))) (C_sure_box : Cal P w K mg base 11 "sure_box" ["grid", "clues"] (spD fn_sure_box)) (C__law_clue : Cal P w K mg base 10 "_law_clue" ["generator", "grid", "deep"] (spG (fn_law_clue 5))) (C__law_word : Cal P w K mg base 9 "_law_word" ["grid", "clues", "clue"] (spD fn_law_word)) (C_what_is_told : Cal P w K mg base 11 "what_is_told" ["grid", "clues", "clue"] (spD fn_what_is_told)) (K_cells_left_clues_grid : CalK P w K mg base 10 "cells_left" ["grid", "clues"] ["clues", "grid"] [1, 0] (spN fn_cells_left)) (K_sure_box_clues_grid : CalK P w K mg base 11 "sure_box" ["grid", "clues"] ["clues", "grid"] [1, 0] (spD fn_sure_box)) (K_what_is_told_clue_clues_grid : CalK P w K mg base 11 "what_is_told" ["grid", "clues", "clue"] ["clue", "clues", "grid"] [2, 1, 0] (spD fn_what_is_told)) : FnG P w K mg base 14 f fd ["generator", "grid", "clues"] (spG fn_law_right) := by
  have nd := sc__law_right.nd
  refine mkG (k := 13) F sc__law_right (by rintro gs ds Q ⟨_, _, _, _, rfl, _⟩; rfl) (by decide) (fun cdv A outer s H E gd hr =>
    (pss_cons (ps_asg (pe_tup (pa_cons (pe_callB (callr_repr gd (hu102 hr)) (by rfl) G.b_repr (by decide +kernel) (pa_cons (pe_lst (pa_cons (pvF 1) (pa_cons (pvF 2) pa_nil))) pa_nil)) (pa_cons (pe_cal C__law_left gd (hr.mono (by first | decide | omega)) (by rfl) (pa_cons (pvF 1) (pa_cons (pvF 2) pa_nil))) pa_nil))) (pg_tupD (n := 2) rfl (pgs_cons (pg_name (i := 3) nd rfl (Or.inl rfl)) (pgs_cons (pg_name (i := 4) nd rfl (Or.inr rfl)) pgs_nil))))
      (pss_cons (ps_set (i := 5) nd rfl (Or.inl rfl) (pe_cal C_cells_left gd (hr.mono (by first | decide | omega)) (by rfl) (pa_cons (pvF 1) (pa_cons (pvF 2) pa_nil))))
      (pss_cons (ps_ifT (pt_not (pt_val (pe_cal C__law_same gd (hr.mono (by first | decide | omega)) (by rfl) (pa_cons (pe_lst (pa_cons (pvF 5) (pa_cons (pe_calK K_cells_left_clues_grid gd (hr.mono (by first | decide | omega)) (by rfl) (pk_cons (pvF 2) (pk_cons (pvF 1) pk_nil))) pa_nil))) (pa_cons (pe_lst (pa_cons (pvF 4) (pa_cons (pvF 4) pa_nil))) pa_nil)))))
        (pss_one (ps_ret pe_bl))
        pss_nil)
      (pss_cons (ps_par (i := 6) (j := 7) rfl nd rfl rfl (by decide) rfl rfl (pa_cons (pe_lcD (own := [("cell", 8)]) (vs := [8]) rfl rfl nd (pi_any (pvF 4)) (blkOk_by (N := N__law_right) (sc := defScope s__law_right) (by decide +kernel)) (fun _ _ _ _ _ => (pg_name (i := 8) nd rfl (Or.inl rfl))) (fun _ _ _ _ _ => pts_nil) (fun _ _ _ _ _ => (pe_ix ixr (pvF 8) pe_int (fun _ _ => rfl)))) (pa_cons (pe_lcD (own := [("cell", 8)]) (vs := [8]) rfl rfl nd (pi_any (pvF 4)) (blkOk_by (N := N__law_right) (sc := defScope s__law_right) (by decide +kernel)) (fun _ _ _ _ _ => (pg_name (i := 8) nd rfl (Or.inl rfl))) (fun _ _ _ _ _ => pts_nil) (fun _ _ _ _ _ => (pe_ix ixr (pvF 8) pe_int (fun _ _ => rfl)))) pa_nil)) (by rfl))
      (pss_cons (ps_set (i := 9) nd rfl (Or.inl rfl) (pe_ifExp (pt_cmpR (opr_ne (hu64 hr)) (pvF 4) (pe_lst pa_nil) (nomark _)) (pe_tup (pa_cons (pe_tup (pa_cons (pe_callB (callr_minL rfl) (by rfl) G.b_min (by decide +kernel) (pa_cons (pvF 6) pa_nil)) (pa_cons (pe_callB (callr_minL rfl) (by rfl) G.b_min (by decide +kernel) (pa_cons (pvF 7) pa_nil)) pa_nil))) (pa_cons (pe_tup (pa_cons (pe_callB (callr_maxL rfl) (by rfl) G.b_max (by decide +kernel) (pa_cons (pvF 6) pa_nil)) (pa_cons (pe_callB (callr_maxL rfl) (by rfl) G.b_max (by decide +kernel) (pa_cons (pvF 7) pa_nil)) pa_nil))) pa_nil))) pe_non))
      (pss_cons (ps_if (pt_not (pt_val (pe_cal C__law_same gd (hr.mono (by first | decide | omega)) (by rfl) (pa_cons (pe_lst (pa_cons (pe_cal C_sure_box gd (hr.mono (by first | decide | omega)) (by rfl) (pa_cons (pvF 1) (pa_cons (pvF 2) pa_nil))) (pa_cons (pe_calK K_sure_box_clues_grid gd (hr.mono (by first | decide | omega)) (by rfl) (pk_cons (pvF 2) (pk_cons (pvF 1) pk_nil))) pa_nil))) (pa_cons (pe_lst (pa_cons (pvF 9) (pa_cons (pvF 9) pa_nil))) pa_nil)))))
        (pss_one (ps_ret pe_bl))
        pss_nil)
      (pss_cons (ps_for PassesOwn.never rfl (pi_range1 (by rfl) G.b_range (pa_cons pe_int pa_nil)) (pg_name (i := 10) nd rfl (Or.inl rfl))
        (pss_cons (ps_set (i := 11) nd rfl (Or.inl rfl) (pe_cal C__law_clue gd (hr.mono (by first | decide | omega)) (by rfl) (pa_cons (pvF 0) (pa_cons (pvF 1) (pa_cons (pe_op opr_fdiv (pvF 10) pe_int) pa_nil)))))
        (pss_cons (ps_set (i := 12) nd rfl (Or.inl rfl) (pe_cal C__law_word gd (hr.mono (by first | decide | omega)) (by rfl) (pa_cons (pvF 1) (pa_cons (pvF 2) (pa_cons (pvF 11) pa_nil)))))
        (pss_cons (ps_if (pt_not (pt_val (pe_cal C__law_same gd (hr.mono (by first | decide | omega)) (by rfl) (pa_cons (pe_lst (pa_cons (pe_cal C_what_is_told gd (hr.mono (by first | decide | omega)) (by rfl) (pa_cons (pvF 1) (pa_cons (pvF 2) (pa_cons (pvF 11) pa_nil)))) (pa_cons (pe_calK K_what_is_told_clue_clues_grid gd (hr.mono (by first | decide | omega)) (by rfl) (pk_cons (pvF 11) (pk_cons (pvF 2) (pk_cons (pvF 1) pk_nil)))) pa_nil))) (pa_cons (pe_lst (pa_cons (pvF 12) (pa_cons (pvF 12) pa_nil))) pa_nil)))))
          (pss_one (ps_ret pe_bl))
          pss_nil)
        (pss_cons (ps_set (i := 13) nd rfl (Or.inl rfl) (pe_cal C_cells_left gd (hr.mono (by first | decide | omega)) (by rfl) (pa_cons (pvF 1) (pa_cons (pe_op opr_add (pvF 2) (pe_lst (pa_cons (pvF 11) pa_nil))) pa_nil))))
        (pss_cons (ps_if (PW.pt (pw_or (pt_cmpR (opr_ne (hu64 hr)) (pe_lcD (own := [("cell", 8)]) (vs := [8]) rfl rfl nd (pi_any (pvF 13)) (blkOk_by (N := N__law_right) (sc := defScope s__law_right) (by decide +kernel)) (fun _ _ _ _ _ => (pg_name (i := 8) nd rfl (Or.inl rfl))) (fun _ _ _ _ _ => (pts_one (pt_cmpR (opr_nin (hu65 hr)) (pvF 8) (pvF 4) (by rfl)))) (fun _ _ _ _ _ => (pvF 8))) (pe_lst pa_nil) (nomark _)) (pw_or1 (pt_cmpR (opr_ne (hu64 hr)) (pe_cal C_cells_left gd (hr.mono (by first | decide | omega)) (by rfl) (pa_cons (pvF 1) (pa_cons (pe_op opr_add (pvF 2) (pe_lst (pa_cons (pvF 11) (pa_cons (pe_tup (pa_cons pe_str (pa_cons (pvF 11) pa_nil))) pa_nil)))) pa_nil))) (pe_lst pa_nil) (nomark _)))))
          (pss_one (ps_ret pe_bl))
          pss_nil)
        (pss_one (ps_if (PW.pt (pw_or (PW.pt (pw_and (pt_cmpR (opr_eq (hu64 hr)) (pvF 12) pe_str (nomark _)) (pw_and1 (pt_cmpR (opr_ne (hu64 hr)) (pvF 13) (pvF 4) (nomark _))))) (pw_or (PW.pt (pw_and (pt_cmpR (opr_eq (hu64 hr)) (pvF 12) pe_str (nomark _)) (pw_and1 (pt_cmpR (opr_ne (hu64 hr)) (pvF 13) (pe_lst pa_nil) (nomark _))))) (pw_or1 (pt_cmpR (opr_ne (hu64 hr)) (pe_callB callr_sortX (by rfl) G.b_sorted (by decide +kernel) (pa_cons (pe_op opr_add (pvF 13) (pe_cal C_cells_left gd (hr.mono (by first | decide | omega)) (by rfl) (pa_cons (pvF 1) (pa_cons (pe_op opr_add (pvF 2) (pe_lst (pa_cons (pe_tup (pa_cons pe_str (pa_cons (pvF 11) pa_nil))) pa_nil))) pa_nil)))) pa_nil)) (pvF 4) (nomark _))))))
          (pss_one (ps_ret pe_bl))
          pss_nil))))))))
      (pss_cons (ps_app (pv 5) pe_non)
      (pss_one (ps_ret (pe_and (pe_cal C__law_same gd (hr.mono (by first | decide | omega)) (by rfl) (pa_cons (pe_cal C_cells_left gd (hr.mono (by first | decide | omega)) (by rfl) (pa_cons (pvF 1) (pa_cons (pvF 2) pa_nil))) (pa_cons (pvF 4) pa_nil))) (pe_one (pe_cmpR (opr_eq (hu64 hr)) (pe_callB (callr_repr gd (hu102 hr)) (by rfl) G.b_repr (by decide +kernel) (pa_cons (pe_lst (pa_cons (pvF 1) (pa_cons (pvF 2) pa_nil))) pa_nil)) (pvF 3) (nomark _))))))))))))))) inferInstance ?_
  rintro gs ds Q ⟨n, R, C, cs, rfl, hg, hc, hgn, q⟩
  unfold N__law_right
  have hco := hc.ok
  have rp := gw_law hg hc
  refine seq_step fun K1 hK1 => ?_
  walk_at "ds"
  refine ⟨rp, R, C, cs, rfl, hg, hco, hK1 _ ?_⟩
  clear hK1
  generalize hkept : (PyData.list [gridD R C, cluesD cs]).shown = kept
  have hl := left_len hg cs
  refine seq_step fun K2 hK2 => ?_
  walk_at "ds"
  refine ⟨R, C, cs, rfl, hg, hco, hK2 _ ?_⟩
  clear hK2
  refine seq_step fun K3 hK3 => ?_
  walk_at "ds"
  refine ⟨R, C, cs, rfl, hg, hco, _, rfl, exa_two (exa_pairs _ (by omega) 8), ?_⟩
  refine hK3 _ ?_
  clear hK3
  refine seq_step fun K4 hK4 => ?_
  unfold leftD
  walk_at "ds"
  refine lc_mapO pairP (fun p => .int p.1) (kept_no rfl) _ (fun p hp Q' q' => ?_) (by omega) ?_
  · unfold pairP
    walk_at "ds"
    exact q'
  walk_at "ds"
  refine lc_mapO pairP (fun p => .int p.2) (kept_no rfl) _ (fun p hp Q' q' => ?_) (by omega) ?_
  · unfold pairP
    walk_at "ds"
    exact q'
  refine hK4 _ ?_
  clear hK4
  refine seq_step fun K5 hK5 => ?_
  suffices h : ∀ d s6 s7, boxIs (leftP R C cs) d → K5 [.g gs, .d (gridD R C), .d (cluesD cs), .d (.str kept), .d (.list ((leftP R C cs).map pairP)), .l ((leftP R C cs).map pairP), s6, s7, .no, .d d, .no, .no, .no, .no] by
    generalize hps : leftP R C cs = ps at h hl ⊢
    walk_at "ds"
    refine ne_nil (pairs_lay _) ?_
    rw [isNil_map]
    cases he : ps.isEmpty with
    | true => exact h _ _ _ (.inl ⟨List.isEmpty_iff.mp he, rfl⟩)
    | false =>
      have hne : ps ≠ [] := fun z => by rw [z] at he; cases he
      have hpos : 0 < ps.length := List.length_pos_iff.mpr hne
      walk_at "ds"
      refine ⟨ps.map (·.1), by rw [List.map_map]; rfl, by rw [List.length_map]; exact hpos, fun a a1 a2 => ?_⟩
      refine ⟨ps.map (·.2), by rw [List.map_map]; rfl, by rw [List.length_map]; exact hpos, fun b b1 b2 => ?_⟩
      refine ⟨ps.map (·.1), by rw [List.map_map]; rfl, by rw [List.length_map]; exact hpos, fun c c1 c2 => ?_⟩
      refine ⟨ps.map (·.2), by rw [List.map_map]; rfl, by rw [List.length_map]; exact hpos, fun e e1 e2 => ?_⟩
      exact h _ _ _ (.inr ⟨hne, a, b, c, e, ⟨a1, a2⟩, ⟨b1, b2⟩, ⟨c1, c2⟩, ⟨e1, e2⟩, rfl⟩)
  intro box s6 s7 hbox
  refine hK5 _ ?_
  clear hK5
  refine seq_step fun K6 hK6 => ?_
  walk_at "ds"
  refine ⟨R, C, cs, rfl, hg, hco, fun d hd => ?_⟩
  rw [box_uniq hd hbox]
  refine ⟨R, C, cs, rfl, hg, hco, fun d hd => ?_⟩
  rw [box_uniq hd hbox]
  refine ⟨_, rfl, exa_two (exa_mono (box_exa hbox)), hK6 _ ?_⟩
  clear hK6
  refine seq_step fun K7 hK7 => ?_
  walk_at "ds"
  refine ⟨⟨by decide, by decide⟩, ?_⟩
  refine for_g (fun rest ρ => ∃ (gs : List PyData) (s6 s7 s10 s11 s12 s13 : Sl), ρ = [.g gs, .d (gridD R C), .d (cluesD cs), .d (.str kept), .d (.list ((leftP R C cs).map pairP)), .l ((leftP R C cs).map pairP), s6, s7, .no, .d box, s10, s11, s12, s13] ∧ (∀ y ∈ rest, ∃ t : Nat, y = .int t ∧ t ≤ 4) ∧ Gen (n + 100 * rest.length) gs) (fun y rest ρ hW K hK => ?_) (fun ρ hW => ?_) _ _ ⟨gs, _, _, _, _, _, _, rfl, fun y hy => ?_, hgn.le (by rw [rng_length]; show n + 100 * 5 ≤ n + 500; omega)⟩
  · obtain ⟨gs2, s6, s7, s10, s11, s12, s13, rfl, hy, hgn2⟩ := hW
    obtain ⟨t, rfl, ht⟩ := hy y List.mem_cons_self
    have hrest : ∀ y ∈ rest, ∃ t : Nat, y = .int t ∧ t ≤ 4 := fun z hz => hy z (List.mem_cons_of_mem _ hz)
    clear hy
    simp only [List.length_cons] at hgn2
    refine seq_step fun K8 hK8 => ?_
    walk_at "ds"
    rw [fdiv_pos (by decide), show ((t : Int) / 2) = ((t / 2 : Nat) : Int) by omega]
    have h3 : 3 ^ (t / 2) ≤ 3 ^ 2 := Nat.pow_le_pow_right (by decide) (by omega)
    have h2 : 2 ^ (t / 2 + 1) ≤ 2 ^ 3 := Nat.pow_le_pow_right (by decide) (by omega)
    refine ⟨⟨by decide, by decide⟩, n + 100 * rest.length, R, C, t / 2, rfl, hg, by omega, hgn2.le (by omega), fun c gs3 hw hd hs hgn3 => hK8 _ ?_⟩
    clear hK8
    have hone : cOne R C c := ⟨hw, by omega, by omega⟩
    have hneg : cOne R C (.neg c) := ⟨hw, by simp only [Clue.size]; omega, by simp only [Clue.deep]; omega⟩
    refine seq_step fun K9 hK9 => ?_
    walk_at "ds"
    refine ⟨R, C, cs, c, rfl, hg, hco, hone, hK9 _ ?_⟩
    clear hK9
    refine seq_step fun K10 hK10 => ?_
    walk_at "ds"
    refine ⟨R, C, cs, c, rfl, hg, hco, hone, R, C, cs, c, rfl, hg, hco, hone, _, rfl, exa_two (word_exa _ _ 10), hK10 _ ?_⟩
    clear hK10
    refine seq_step fun K11 hK11 => ?_
    unfold cluesD
    walk_at "ds"
    have hcl := hc.1
    have o1 : cOk R C (cs ++ [c]) := cOk.app hc (by simp) (fun x hx => by rw [List.mem_singleton.mp hx]; exact hone)
    have o2 : cOk R C (cs ++ [c, .neg c]) := cOk.app hc (by simp) (fun x hx => by
      rcases List.mem_cons.mp hx with rfl | hx
      · exact hone
      · rw [List.mem_singleton.mp hx]; exact hneg)
    have o3 : cOk R C (cs ++ [.neg c]) := cOk.app hc (by simp) (fun x hx => by rw [List.mem_singleton.mp hx]; exact hneg)
    refine ⟨by rw [sizeLine_eq, List.length_map]; omega, R, C, cs ++ [c], by unfold cluesD; rw [List.map_append]; rfl, hg, o1, hK11 _ ?_⟩
    clear hK11
    unfold leftD
    rw [left_app]
    have hfl : ((leftP R C cs).filter fun p => holds c p).length ≤ 10000 := Nat.le_trans (List.length_filter_le _ _) hl
    refine seq_step fun K12 hK12 => ?_
    walk_at "ds"
    refine lc_filterO pairP (fun _ => false) (kept_no rfl) _ (fun p hp Q' q' => ?_) (fun p hp Q' q' => q') (by omega) ?_
    · walk_at "ds"
      refine ⟨⟨shaped_of (pair_lay p).1 (by have := (pair_lay p).2; omega), shaped_lays (pairs_lay _)⟩, ?_⟩
      rw [inD_pair (List.mem_filter.mp hp).1]
      exact q'
    rw [filter_no]
    refine ne_nil (by simp) ?_
    walk_at "ds"
    refine ⟨by rw [sizeLine_eq, List.length_map]; omega, R, C, cs ++ [c, .neg c], by unfold cluesD; rw [List.map_append]; rfl, hg, o2, ?_⟩
    unfold leftD
    rw [left_two]
    refine ne_nil (by simp) ?_
    refine hK12 _ ?_
    clear hK12
    walk_at "ds"
    have hword : (wordD (leftP R C cs) c = .none) ∨ (wordD (leftP R C cs) c = W "yes" ∧ (leftP R C cs).filter (fun p => holds c p) = leftP R C cs) ∨ (wordD (leftP R C cs) c = W "open") ∨ (wordD (leftP R C cs) c = W "no" ∧ (leftP R C cs).filter (fun p => holds c p) = []) := by
      unfold wordD
      split
      · exact .inl rfl
      · split
        · rename_i h
          exact .inr (.inl ⟨rfl, List.filter_eq_self.mpr fun p hp => List.all_eq_true.mp h p hp⟩)
        · split
          · exact .inr (.inr (.inl rfl))
          · rename_i h
            refine .inr (.inr (.inr ⟨rfl, List.filter_eq_nil_iff.mpr fun p hp hh => h (List.any_eq_true.mpr ⟨p, hp, hh⟩)⟩))
    have enone : ∀ (a : Str) (Q : PyData → Prop), PyData.strOk a = true → Q (.bool false) → dEq .none (.str a) Q := fun a Q h q => ⟨.inl ⟨shaped_none, shaped_str h⟩, by rw [show PyData.eqv .none (.str a) = false by simp [PyData.eqv]]; exact q⟩
    rcases hword with e | ⟨e, hF⟩ | e | ⟨e, hF⟩
    · rw [e]
      refine enone (Str.ofString "yes") _ (by decide +kernel) ?_
      simp only [Bool.false_eq_true, reduceIte]
      refine enone (Str.ofString "no") _ (by decide +kernel) ?_
      simp only [Bool.false_eq_true, reduceIte]
      refine ⟨by rw [sizeLine_eq, List.length_map]; omega, R, C, cs ++ [.neg c], by unfold cluesD; rw [List.map_append]; rfl, hg, o3, ?_⟩
      unfold leftD
      rw [left_app]
      refine ⟨by rw [sizeLine_eq, List.length_map, List.length_map]; have := List.length_filter_le (fun p => holds (.neg c) p) (leftP R C cs); omega, .inr ⟨_, by rw [← List.map_append], fun qs h1 h2 => ?_⟩⟩
      rw [lex_uniq h1 (left_sorted R C cs) (h2.trans (List.filter_append_perm (fun p => holds c p) (leftP R C cs)))]
      refine ne_pairs ?_
      exact hK _ ⟨gs3, _, _, _, _, _, _, rfl, hrest, hgn3⟩
    · rw [e]
      unfold W
      walk_at "ds"
      refine ne_pairs_of hF ?_
      walk_at "ds"
      refine ⟨by rw [sizeLine_eq, List.length_map]; omega, R, C, cs ++ [.neg c], by unfold cluesD; rw [List.map_append]; rfl, hg, o3, ?_⟩
      unfold leftD
      rw [left_app]
      refine ⟨by rw [sizeLine_eq, List.length_map, List.length_map]; have := List.length_filter_le (fun p => holds (.neg c) p) (leftP R C cs); omega, .inr ⟨_, by rw [← List.map_append], fun qs h1 h2 => ?_⟩⟩
      rw [lex_uniq h1 (left_sorted R C cs) (h2.trans (List.filter_append_perm (fun p => holds c p) (leftP R C cs)))]
      refine ne_pairs ?_
      exact hK _ ⟨gs3, _, _, _, _, _, _, rfl, hrest, hgn3⟩
    · rw [e]
      unfold W
      walk_at "ds"
      refine ⟨by rw [sizeLine_eq, List.length_map]; omega, R, C, cs ++ [.neg c], by unfold cluesD; rw [List.map_append]; rfl, hg, o3, ?_⟩
      unfold leftD
      rw [left_app]
      refine ⟨by rw [sizeLine_eq, List.length_map, List.length_map]; have := List.length_filter_le (fun p => holds (.neg c) p) (leftP R C cs); omega, .inr ⟨_, by rw [← List.map_append], fun qs h1 h2 => ?_⟩⟩
      rw [lex_uniq h1 (left_sorted R C cs) (h2.trans (List.filter_append_perm (fun p => holds c p) (leftP R C cs)))]
      refine ne_pairs ?_
      exact hK _ ⟨gs3, _, _, _, _, _, _, rfl, hrest, hgn3⟩
    · rw [e]
      unfold W
      walk_at "ds"
      refine ne_nil_of hF ?_
      walk_at "ds"
      refine ⟨by rw [sizeLine_eq, List.length_map]; omega, R, C, cs ++ [.neg c], by unfold cluesD; rw [List.map_append]; rfl, hg, o3, ?_⟩
      unfold leftD
      rw [left_app]
      refine ⟨by rw [sizeLine_eq, List.length_map, List.length_map]; have := List.length_filter_le (fun p => holds (.neg c) p) (leftP R C cs); omega, .inr ⟨_, by rw [← List.map_append], fun qs h1 h2 => ?_⟩⟩
      rw [lex_uniq h1 (left_sorted R C cs) (h2.trans (List.filter_append_perm (fun p => holds c p) (leftP R C cs)))]
      refine ne_pairs ?_
      exact hK _ ⟨gs3, _, _, _, _, _, _, rfl, hrest, hgn3⟩
  · obtain ⟨gs2, s6, s7, s10, s11, s12, s13, rfl, hy, hgn2⟩ := hW
    refine hK7 _ ?_
    clear hK7
    refine seq_step fun K8 hK8 => ?_
    walk_at "ds"
    refine ⟨by rw [sizeLine_eq, List.length_map]; omega, hK8 _ ?_⟩
    walk_at "ds"
    refine ⟨R, C, cs, rfl, hg, hco, _, rfl, exa_pairs _ (by omega) 9, rp, ?_⟩
    rw [hkept]
    show dEq (.str kept) (.str kept) _
    rw [dEq_ss, decide_eq_true rfl]
    exact ⟨gs2, rfl, q gs2 (hgn2.le (by omega))⟩
  · obtain ⟨i, rfl, h1, h2⟩ := rng_mem hy
    exact ⟨i.toNat, by rw [Int.toNat_of_nonneg h1], by omega⟩
theorem ok_law {f : Addr} {fd : FuncData} (F : Fun K "law" "law" s_law f fd) (G : Glb mg base) (C__law_generator : Cal P w K mg base 2 "_law_generator" ["script", "index"] (spS K fn_law_generator)) (C__law_grid : Cal P w K mg base 3 "_law_grid" ["generator", "most"] (spG fn_law_grid)) (C__law_clue : Cal P w K mg base 10 "_law_clue" ["generator", "grid", "deep"] (spG (fn_law_clue 5))) (C__law_random : Cal P w K mg base 2 "_law_random" ["generator", "bound"] (spG fn_law_random)) (C__law_right : Cal P w K mg base 14 "_law_right" ["generator", "grid", "clues"] (spG fn_law_right)) (C__law_same : Cal P w K mg base 13 "_law_same" ["found", "due"] (spD (fn_law_same 12))) (C_what_is_told : Cal P w K mg base 11 "what_is_told" ["grid", "clues", "clue"] (spD fn_what_is_told)) (C_sure_box : Cal P w K mg base 11 "sure_box" ["grid", "clues"] (spD fn_sure_box)) (C_cells_left : Cal P w K mg base 10 "cells_left" ["grid", "clues"] (spN fn_cells_left)) : FnG P w K mg base 16 f fd ["script"] (spL K fn_law) := by
  have nd := sc_law.nd
  refine mkL (k := 15) F sc_law  (fun cdv A outer s H E gd hr =>
    (pss_cons (ps_for PassesOwn.never rfl (pi_range1 (by rfl) G.b_range (pa_cons pe_int pa_nil)) (pg_name (i := 1) nd rfl (Or.inl rfl))
        (pss_cons (ps_set (i := 2) nd rfl (Or.inr rfl) (pe_cal C__law_generator gd (hr.mono (by first | decide | omega)) (by rfl) (pa_cons (pvF 0) (pa_cons (pvF 1) pa_nil))))
        (pss_cons (ps_set (i := 3) nd rfl (Or.inr rfl) (pe_cal C__law_grid gd (hr.mono (by first | decide | omega)) (by rfl) (pa_cons (pvF 2) (pa_cons pe_int pa_nil))))
        (pss_one (ps_for PassesOwn.never rfl (pi_any (pe_lst (pa_cons pe_int (pa_cons pe_int (pa_cons pe_int pa_nil))))) (pg_name (i := 4) nd rfl (Or.inl rfl))
          (pss_cons (ps_setLcD (i := 5) rfl rfl (sw_true rfl rfl rfl (by decide +kernel)) (own := [("turn", 6)]) (vs := [6]) rfl rfl nd (pi_range1 (by rfl) G.b_range (pa_cons (pvF 4) pa_nil)) (blkOk_by (N := N_law) (sc := defScope s_law) (by decide +kernel)) (fun _ _ _ _ _ => (pg_name (i := 6) nd rfl (Or.inl rfl))) (fun _ _ _ _ _ => pts_nil) (fun _ _ _ _ _ => (pe_cal C__law_clue gd (hr.mono (by first | decide | omega)) (by rfl) (pa_cons (pvF 2) (pa_cons (pvF 3) (pa_cons (pe_cal C__law_random gd (hr.mono (by first | decide | omega)) (by rfl) (pa_cons (pvF 2) (pa_cons pe_int pa_nil))) pa_nil))))))
          (pss_one (ps_if (PW.pt (pw_or (pt_not (pt_val (pe_cal C__law_right gd (hr.mono (by first | decide | omega)) (by rfl) (pa_cons (pvF 2) (pa_cons (pvF 3) (pa_cons (pvF 5) pa_nil)))))) (pw_or1 (pt_not (pt_val (pe_cal C__law_right gd (hr.mono (by first | decide | omega)) (by rfl) (pa_cons (pvF 2) (pa_cons (pvF 3) (pa_cons (pe_lcD (own := [("clue", 7)]) (vs := [7]) rfl rfl nd (pi_any (pvF 5)) (blkOk_by (N := N_law) (sc := defScope s_law) (by decide +kernel)) (fun _ _ _ _ _ => (pg_name (i := 7) nd rfl (Or.inl rfl))) (fun _ _ _ _ _ => (pts_one (pt_cmpR (opr_eq (hu64 hr)) (pe_cal C__law_random gd (hr.mono (by first | decide | omega)) (by rfl) (pa_cons (pvF 2) (pa_cons pe_int pa_nil))) pe_int (nomark _)))) (fun _ _ _ _ _ => (pvF 7))) pa_nil)))))))))
            (pss_one (ps_ret pe_bl))
            pss_nil))))))))
      (pss_cons (ps_asg (pe_tup (pa_cons (pe_tup (pa_cons pe_str (pa_cons pe_int (pa_cons pe_int pa_nil)))) (pa_cons (pe_lst (pa_cons (pe_tup (pa_cons pe_str (pa_cons (pe_tup (pa_cons pe_str (pa_cons pe_int pa_nil))) pa_nil))) (pa_cons (pe_tup (pa_cons pe_str (pa_cons (pe_tup (pa_cons pe_int (pa_cons pe_int pa_nil))) (pa_cons pe_int pa_nil)))) (pa_cons (pe_tup (pa_cons pe_str (pa_cons pe_int pa_nil))) pa_nil)))) pa_nil))) (pg_tupD (n := 2) rfl (pgs_cons (pg_name (i := 3) nd rfl (Or.inr rfl)) (pgs_cons (pg_name (i := 5) nd rfl (Or.inl rfl)) pgs_nil))))
      (pss_one (ps_ret (pe_cal C__law_same gd (hr.mono (by first | decide | omega)) (by rfl) (pa_cons (pe_lst (pa_cons (pe_cal C_cells_left gd (hr.mono (by first | decide | omega)) (by rfl) (pa_cons (pvF 3) (pa_cons (pe_slice slr (pvF 5) po_none (po_some pe_int)) pa_nil))) (pa_cons (pe_cal C_sure_box gd (hr.mono (by first | decide | omega)) (by rfl) (pa_cons (pvF 3) (pa_cons (pe_slice slr (pvF 5) po_none (po_some pe_int)) pa_nil))) (pa_cons (pe_cal C_what_is_told gd (hr.mono (by first | decide | omega)) (by rfl) (pa_cons (pvF 3) (pa_cons (pe_slice slr (pvF 5) po_none (po_some pe_int)) (pa_cons (pe_tup (pa_cons pe_str (pa_cons pe_int pa_nil))) pa_nil)))) (pa_cons (pe_cal C_what_is_told gd (hr.mono (by first | decide | omega)) (by rfl) (pa_cons (pvF 3) (pa_cons (pe_lst (pa_cons (pe_tup (pa_cons pe_str (pa_cons pe_int pa_nil))) (pa_cons (pe_tup (pa_cons pe_str (pa_cons pe_int pa_nil))) pa_nil))) (pa_cons (pe_tup (pa_cons pe_str (pa_cons pe_int pa_nil))) pa_nil)))) pa_nil))))) (pa_cons (pe_lst (pa_cons (pe_lst (pa_cons (pe_tup (pa_cons pe_int (pa_cons pe_int pa_nil))) (pa_cons (pe_tup (pa_cons pe_int (pa_cons pe_int pa_nil))) (pa_cons (pe_tup (pa_cons pe_int (pa_cons pe_int pa_nil))) pa_nil)))) (pa_cons (pe_tup (pa_cons (pe_tup (pa_cons pe_int (pa_cons pe_int pa_nil))) (pa_cons (pe_tup (pa_cons pe_int (pa_cons pe_int pa_nil))) pa_nil))) (pa_cons pe_str (pa_cons pe_non pa_nil))))) pa_nil)))))))) inferInstance ?_
  rintro a u ns Q hsc q
  unfold N_law
  refine seq_step fun K1 hK1 => ?_
  suffices h : ∀ s1 s2 s3 s4 s5, K1 [.v a u, s1, s2, s3, s4, s5, .no, .no] by
    walk_at "ds"
    refine ⟨⟨by decide, by decide⟩, ?_⟩
    refine for_g (fun xs ρ => ∃ s1 s2 s3 s4 s5 : Sl, ρ = [.v a u, s1, s2, s3, s4, s5, .no, .no] ∧ ∀ y ∈ xs, ∃ i : Int, y = .int i ∧ 0 ≤ i ∧ i ≤ 100) (fun x xs ρ hW K2 hK2 => ?_) (fun ρ hW => ?_) _ _ ⟨_, _, _, _, _, rfl, fun y hy => ?_⟩
    · obtain ⟨s1, s2, s3, s4, s5, rfl, hx⟩ := hW
      obtain ⟨i, rfl, hi0, hi1⟩ := hx x List.mem_cons_self
      have hxs : ∀ y ∈ xs, ∃ i : Int, y = .int i ∧ 0 ≤ i ∧ i ≤ 100 := fun y hy => hx y (List.mem_cons_of_mem _ hy)
      refine seq_step fun K3 hK3 => ?_
      walk_at "ds"
      refine ⟨a, u, ns, rfl, hsc, i, rfl, hi0, hi1, fun gs hg => hK3 _ ?_⟩
      clear hK3
      refine seq_step fun K4 hK4 => ?_
      walk_at "ds"
      refine ⟨100000, rfl, hg.le (by decide), fun R C gs1 hRC hg1 => hK4 _ ?_⟩
      clear hK4
      walk_at "ds"
      refine for_g (fun ys ρ => ∃ (gs : List PyData) (s4 s5 : Sl), ρ = [.v a u, .d (.int i), .l gs, .d (gridD R C), s4, s5, .no, .no] ∧ (∀ y ∈ ys, ∃ m : Nat, y = .int m ∧ m ≤ 8) ∧ Gen (10000 * ys.length) gs) (fun y ys ρ hW K5 hK5 => ?_) (fun ρ hW => ?_) _ _ ⟨gs1, _, _, rfl, fun y hy => ?_, hg1.le (by decide)⟩
      · obtain ⟨gs2, s4, s5, rfl, hy, hg2⟩ := hW
        obtain ⟨m, rfl, hm⟩ := hy y List.mem_cons_self
        have hys : ∀ y ∈ ys, ∃ m : Nat, y = .int m ∧ m ≤ 8 := fun z hz => hy z (List.mem_cons_of_mem _ hz)
        clear hy hg1 hg
        simp only [List.length_cons] at hg2
        refine seq_step fun K6 hK6 => ?_
        walk_at "ds"
        refine ⟨⟨by omega, by omega⟩, ?_⟩
        refine lc_g (fun rest acc ρ => ∃ (gs : List PyData) (cs : List Clue), ρ = [.v a u, .d (.int i), .l gs, .d (gridD R C), .d (.int m), s5, .no, .no] ∧ acc = cs.map Clue.toD ∧ (∀ c ∈ cs, c.wf R C ∧ c.size ≤ 16 ∧ c.deep ≤ 3) ∧ cs.length + rest.length ≤ 8 ∧ Gen (10000 * ys.length + 5000 + 300 * rest.length) gs) (fun x rest acc ρ hW => ?_) (fun acc ρ hW => ?_) _ _ _ ⟨gs2, [], rfl, rfl, by simp, by rw [rng_length]; simp; omega, hg2.le (by rw [rng_length]; omega)⟩
        · obtain ⟨gs3, cs, rfl, rfl, hcs, hl, hg3⟩ := hW
          simp only [List.length_cons] at hl hg3
          refine ⟨by rw [sizeLine_eq, List.length_map]; omega, fun K hK => ?_⟩
          walk_at "ds"
          refine ⟨10000 * ys.length + 5000 + 300 * rest.length + 299, 4, rfl, by decide, big_of (by decide), hg3.le (by omega), fun k gs4 k0 k1 hg4 => ?_⟩
          obtain ⟨k, rfl⟩ : ∃ k' : Nat, k = (k' : Int) := ⟨k.toNat, by omega⟩
          have h3 : 3 ^ k ≤ 3 ^ 3 := Nat.pow_le_pow_right (by decide) (by omega)
          have h2 : 2 ^ (k + 1) ≤ 2 ^ 4 := Nat.pow_le_pow_right (by decide) (by omega)
          refine ⟨10000 * ys.length + 5000 + 300 * rest.length, R, C, k, rfl, hRC, by omega, hg4.le (by omega), fun c gs5 hw hd hs hg5 => hK _ _ ⟨gs5, cs ++ [c], rfl, by simp, fun z hz => ?_, by simp; omega, hg5⟩⟩
          rcases List.mem_append.mp hz with hz | hz
          · exact hcs z hz
          · rw [List.mem_singleton.mp hz]; exact ⟨hw, by omega, by omega⟩
        · obtain ⟨gs3, cs, rfl, rfl, hcs, hl, hg3⟩ := hW
          simp only [List.length_nil, Nat.add_zero, Nat.mul_zero] at hl hg3
          refine hK6 _ ?_
          clear hK6
          walk_at "ds"
          refine ⟨10000 * ys.length + 4000, R, C, cs, rfl, hRC, ⟨hl, hcs⟩, hg3.le (by omega), fun gs4 hg4 => ?_⟩
          show lcGo _ _ _ _ _ _ _ _
          refine lc_g (fun rest acc ρ => ∃ (gs : List PyData) (ds es : List Clue), ρ = [.v a u, .d (.int i), .l gs, .d (gridD R C), .d (.int m), .d (.list (cs.map Clue.toD)), .no, .no] ∧ acc = ds.map Clue.toD ∧ rest = es.map Clue.toD ∧ (∀ c ∈ ds, c ∈ cs) ∧ (∀ c ∈ es, c ∈ cs) ∧ ds.length + rest.length ≤ 8 ∧ Gen (10000 * ys.length + 1000 + rest.length) gs) (fun x rest acc ρ hW => ?_) (fun acc ρ hW => ?_) _ _ _ ⟨gs4, [], cs, rfl, rfl, rfl, by simp, fun c hc => hc, by rw [List.length_map]; simpa using hl, hg4.le (by rw [List.length_map]; omega)⟩
          · obtain ⟨gs5, ds, es, rfl, rfl, hre, hds, hes, hl2, hg5⟩ := hW
            cases es with
            | nil => cases hre
            | cons e es =>
              rw [List.map_cons] at hre
              injection hre with e1 e2
              subst e1
              simp only [List.length_cons] at hl2 hg5
              refine ⟨by rw [sizeLine_eq, List.length_map]; omega, fun K hK => ?_⟩
              walk_at "ds"
              refine ⟨10000 * ys.length + 1000 + rest.length, 2, rfl, by decide, big_of (by decide), hg5.le (by omega), fun r gs6 r0 r1 hg6 => ?_⟩
              walk_at "ds"
              have hes' : ∀ c ∈ es, c ∈ cs := fun c hc => hes c (List.mem_cons_of_mem _ hc)
              split
              · refine hK _ _ ⟨gs6, ds ++ [e], es, rfl, by simp, e2, fun z hz => ?_, hes', by simp; omega, hg6⟩
                rcases List.mem_append.mp hz with hz | hz
                · exact hds z hz
                · rw [List.mem_singleton.mp hz]; exact hes e List.mem_cons_self
              · exact hK _ _ ⟨gs6, ds, es, rfl, rfl, e2, hds, hes', by omega, hg6⟩
          · obtain ⟨gs5, ds, es, rfl, rfl, hre, hds, hes, hl2, hg5⟩ := hW
            simp only [List.length_nil, Nat.add_zero] at hl2 hg5
            refine ⟨10000 * ys.length, R, C, ds, rfl, hRC, ⟨hl2, fun c hc => hcs c (hds c hc)⟩, hg5.le (by omega), fun gs6 hg6 => ?_⟩
            exact hK5 _ ⟨gs6, _, _, rfl, hys, hg6⟩
      · obtain ⟨gs2, s4, s5, rfl, _⟩ := hW
        exact hK2 _ ⟨_, _, _, _, _, rfl, hxs⟩
      · simp only [List.mem_cons, List.not_mem_nil, or_false] at hy
        rcases hy with rfl | rfl | rfl
        · exact ⟨0, rfl, by decide⟩
        · exact ⟨2, rfl, by decide⟩
        · exact ⟨8, rfl, by decide⟩
    · obtain ⟨s1, s2, s3, s4, s5, rfl, _⟩ := hW
      exact h _ _ _ _ _
    · obtain ⟨i, rfl, h1, h2⟩ := rng_mem hy
      exact ⟨i, rfl, h1, by omega⟩
  intro s1 s2 s3 s4 s5
  refine hK1 _ ?_
  clear hK1
  refine seq_step fun K2 hK2 => ?_
  walk_at "ds"
  refine hK2 _ ?_
  clear hK2
  walk_at "ds"
  have hg : gOk 2 3 := ⟨by decide, by decide, by decide, by decide⟩
  refine ⟨2, 3, EXC, rfl, hg, ex_wf, 2, 3, EXC, rfl, hg, ex_wf, fun d hd => ?_⟩
  rw [box_uniq hd ex5]
  refine ⟨2, 3, EXC, .col 2, rfl, hg, ex_wf, ⟨⟨by decide, by decide⟩, by decide, by decide⟩, ?_⟩
  refine ⟨2, 3, [.row 0, .row 1], .row 0, rfl, hg, ex_wf2, ⟨⟨by decide, by decide⟩, by decide, by decide⟩, ?_⟩
  unfold leftD
  rw [ex2, ex4, ex1]
  refine ⟨_, rfl, ?_, q⟩
  exact exa_lay 12 _ (by decide +kernel) (by decide +kernel) (by decide +kernel)
end
theorem all_mk {l : PySem.W.OpenLaw} {w : World} {K : PySem.W.Frag} {h : Heap} {mg : Str → Option Value} {fa f_is_whole f_is_count f_is_grid f_check_grid f_is_cell f_parts_of_clue f_is_plain_clue f_is_clue_of f_plain_truth f_is_true_at f_check_clue f_check_clues f_all_cells f_left_in f_cells_left f_sure_box f_what_is_told f__law_hash f__law_random f__law_cell f__law_generator f__law_pick f__law_same f__law_cells f__law_grid f__law_plain f__law_clue f__law_holds f__law_left f__law_word f__law_right f_law : Addr} (X : K.In h) (G : h.Ns mainGlobals mg) (hfa : mg "law" = some (.ref fa))
    {od_is_whole an_is_whole od_is_count an_is_count od_is_grid an_is_grid od_check_grid an_check_grid od_is_cell an_is_cell od_parts_of_clue an_parts_of_clue od_is_plain_clue an_is_plain_clue od_is_clue_of an_is_clue_of od_plain_truth an_plain_truth od_is_true_at an_is_true_at od_check_clue an_check_clue od_check_clues an_check_clues od_all_cells an_all_cells od_left_in an_left_in od_cells_left an_cells_left od_sure_box an_sure_box od_what_is_told an_what_is_told od__law_hash an__law_hash od__law_random an__law_random od__law_cell an__law_cell od__law_generator an__law_generator od__law_pick an__law_pick od__law_same an__law_same od__law_cells an__law_cells od__law_grid an__law_grid od__law_plain an__law_plain od__law_clue an__law_clue od__law_holds an__law_holds od__law_left an__law_left od__law_word an__law_word od__law_right an__law_right od_law an_law : Option Addr} {sl_is_whole sl_is_count sl_is_grid sl_check_grid sl_is_cell sl_parts_of_clue sl_is_plain_clue sl_is_clue_of sl_plain_truth sl_is_true_at sl_check_clue sl_check_clues sl_all_cells sl_left_in sl_cells_left sl_sure_box sl_what_is_told sl__law_hash sl__law_random sl__law_cell sl__law_generator sl__law_pick sl__law_same sl__law_cells sl__law_grid sl__law_plain sl__law_clue sl__law_holds sl__law_left sl__law_word sl__law_right sl_law : Array (Option Value)} {oc_is_whole kV_is_whole dc_is_whole pm_is_whole cd_is_whole ct_is_whole oc_is_count kV_is_count dc_is_count pm_is_count cd_is_count ct_is_count oc_is_grid kV_is_grid dc_is_grid pm_is_grid cd_is_grid ct_is_grid oc_check_grid kV_check_grid dc_check_grid pm_check_grid cd_check_grid ct_check_grid oc_is_cell kV_is_cell dc_is_cell pm_is_cell cd_is_cell ct_is_cell oc_parts_of_clue kV_parts_of_clue dc_parts_of_clue pm_parts_of_clue cd_parts_of_clue ct_parts_of_clue oc_is_plain_clue kV_is_plain_clue dc_is_plain_clue pm_is_plain_clue cd_is_plain_clue ct_is_plain_clue oc_is_clue_of kV_is_clue_of dc_is_clue_of pm_is_clue_of cd_is_clue_of ct_is_clue_of oc_plain_truth kV_plain_truth dc_plain_truth pm_plain_truth cd_plain_truth ct_plain_truth oc_is_true_at kV_is_true_at dc_is_true_at pm_is_true_at cd_is_true_at ct_is_true_at oc_check_clue kV_check_clue dc_check_clue pm_check_clue cd_check_clue ct_check_clue oc_check_clues kV_check_clues dc_check_clues pm_check_clues cd_check_clues ct_check_clues oc_all_cells kV_all_cells dc_all_cells pm_all_cells cd_all_cells ct_all_cells oc_left_in kV_left_in dc_left_in pm_left_in cd_left_in ct_left_in oc_cells_left kV_cells_left dc_cells_left pm_cells_left cd_cells_left ct_cells_left oc_sure_box kV_sure_box dc_sure_box pm_sure_box cd_sure_box ct_sure_box oc_what_is_told kV_what_is_told dc_what_is_told pm_what_is_told cd_what_is_told ct_what_is_told oc__law_hash kV__law_hash dc__law_hash pm__law_hash cd__law_hash ct__law_hash oc__law_random kV__law_random dc__law_random pm__law_random cd__law_random ct__law_random oc__law_cell kV__law_cell dc__law_cell pm__law_cell cd__law_cell ct__law_cell oc__law_generator kV__law_generator dc__law_generator pm__law_generator cd__law_generator ct__law_generator oc__law_pick kV__law_pick dc__law_pick pm__law_pick cd__law_pick ct__law_pick oc__law_same kV__law_same dc__law_same pm__law_same cd__law_same ct__law_same oc__law_cells kV__law_cells dc__law_cells pm__law_cells cd__law_cells ct__law_cells oc__law_grid kV__law_grid dc__law_grid pm__law_grid cd__law_grid ct__law_grid oc__law_plain kV__law_plain dc__law_plain pm__law_plain cd__law_plain ct__law_plain oc__law_clue kV__law_clue dc__law_clue pm__law_clue cd__law_clue ct__law_clue oc__law_holds kV__law_holds dc__law_holds pm__law_holds cd__law_holds ct__law_holds oc__law_left kV__law_left dc__law_left pm__law_left cd__law_left ct__law_left oc__law_word kV__law_word dc__law_word pm__law_word cd__law_word ct__law_word oc__law_right kV__law_right dc__law_right pm__law_right cd__law_right ct__law_right oc_law kV_law dc_law pm_law cd_law ct_law : Value}
    (a_is_whole : PySem.W.nsIn K mainGlobals "is_whole" = some (some (.ref f_is_whole)))
    (l_is_whole : K.lookup f_is_whole = some ⟨oc_is_whole, od_is_whole, .func (PySem.W.fnOf "is_whole" "is_whole" (defArgs s_is_whole) (defBody s_is_whole) (defScope s_is_whole) .none kV_is_whole dc_is_whole pm_is_whole an_is_whole cd_is_whole ct_is_whole), sl_is_whole⟩)
    (c_is_whole : PySem.W.codeIn K cd_is_whole "is_whole" = true) (k_is_whole : PySem.W.keepIn K (.ref f_is_whole) = true)
    (a_is_count : PySem.W.nsIn K mainGlobals "is_count" = some (some (.ref f_is_count)))
    (l_is_count : K.lookup f_is_count = some ⟨oc_is_count, od_is_count, .func (PySem.W.fnOf "is_count" "is_count" (defArgs s_is_count) (defBody s_is_count) (defScope s_is_count) .none kV_is_count dc_is_count pm_is_count an_is_count cd_is_count ct_is_count), sl_is_count⟩)
    (c_is_count : PySem.W.codeIn K cd_is_count "is_count" = true) (k_is_count : PySem.W.keepIn K (.ref f_is_count) = true)
    (a_is_grid : PySem.W.nsIn K mainGlobals "is_grid" = some (some (.ref f_is_grid)))
    (l_is_grid : K.lookup f_is_grid = some ⟨oc_is_grid, od_is_grid, .func (PySem.W.fnOf "is_grid" "is_grid" (defArgs s_is_grid) (defBody s_is_grid) (defScope s_is_grid) .none kV_is_grid dc_is_grid pm_is_grid an_is_grid cd_is_grid ct_is_grid), sl_is_grid⟩)
    (c_is_grid : PySem.W.codeIn K cd_is_grid "is_grid" = true) (k_is_grid : PySem.W.keepIn K (.ref f_is_grid) = true)
    (a_check_grid : PySem.W.nsIn K mainGlobals "check_grid" = some (some (.ref f_check_grid)))
    (l_check_grid : K.lookup f_check_grid = some ⟨oc_check_grid, od_check_grid, .func (PySem.W.fnOf "check_grid" "check_grid" (defArgs s_check_grid) (defBody s_check_grid) (defScope s_check_grid) .none kV_check_grid dc_check_grid pm_check_grid an_check_grid cd_check_grid ct_check_grid), sl_check_grid⟩)
    (c_check_grid : PySem.W.codeIn K cd_check_grid "check_grid" = true) (k_check_grid : PySem.W.keepIn K (.ref f_check_grid) = true)
    (a_is_cell : PySem.W.nsIn K mainGlobals "is_cell" = some (some (.ref f_is_cell)))
    (l_is_cell : K.lookup f_is_cell = some ⟨oc_is_cell, od_is_cell, .func (PySem.W.fnOf "is_cell" "is_cell" (defArgs s_is_cell) (defBody s_is_cell) (defScope s_is_cell) .none kV_is_cell dc_is_cell pm_is_cell an_is_cell cd_is_cell ct_is_cell), sl_is_cell⟩)
    (c_is_cell : PySem.W.codeIn K cd_is_cell "is_cell" = true) (k_is_cell : PySem.W.keepIn K (.ref f_is_cell) = true)
    (a_parts_of_clue : PySem.W.nsIn K mainGlobals "parts_of_clue" = some (some (.ref f_parts_of_clue)))
    (l_parts_of_clue : K.lookup f_parts_of_clue = some ⟨oc_parts_of_clue, od_parts_of_clue, .func (PySem.W.fnOf "parts_of_clue" "parts_of_clue" (defArgs s_parts_of_clue) (defBody s_parts_of_clue) (defScope s_parts_of_clue) .none kV_parts_of_clue dc_parts_of_clue pm_parts_of_clue an_parts_of_clue cd_parts_of_clue ct_parts_of_clue), sl_parts_of_clue⟩)
    (c_parts_of_clue : PySem.W.codeIn K cd_parts_of_clue "parts_of_clue" = true) (k_parts_of_clue : PySem.W.keepIn K (.ref f_parts_of_clue) = true)
    (a_is_plain_clue : PySem.W.nsIn K mainGlobals "is_plain_clue" = some (some (.ref f_is_plain_clue)))
    (l_is_plain_clue : K.lookup f_is_plain_clue = some ⟨oc_is_plain_clue, od_is_plain_clue, .func (PySem.W.fnOf "is_plain_clue" "is_plain_clue" (defArgs s_is_plain_clue) (defBody s_is_plain_clue) (defScope s_is_plain_clue) .none kV_is_plain_clue dc_is_plain_clue pm_is_plain_clue an_is_plain_clue cd_is_plain_clue ct_is_plain_clue), sl_is_plain_clue⟩)
    (c_is_plain_clue : PySem.W.codeIn K cd_is_plain_clue "is_plain_clue" = true) (k_is_plain_clue : PySem.W.keepIn K (.ref f_is_plain_clue) = true)
    (a_is_clue_of : PySem.W.nsIn K mainGlobals "is_clue_of" = some (some (.ref f_is_clue_of)))
    (l_is_clue_of : K.lookup f_is_clue_of = some ⟨oc_is_clue_of, od_is_clue_of, .func (PySem.W.fnOf "is_clue_of" "is_clue_of" (defArgs s_is_clue_of) (defBody s_is_clue_of) (defScope s_is_clue_of) .none kV_is_clue_of dc_is_clue_of pm_is_clue_of an_is_clue_of cd_is_clue_of ct_is_clue_of), sl_is_clue_of⟩)
    (c_is_clue_of : PySem.W.codeIn K cd_is_clue_of "is_clue_of" = true) (k_is_clue_of : PySem.W.keepIn K (.ref f_is_clue_of) = true)
    (a_plain_truth : PySem.W.nsIn K mainGlobals "plain_truth" = some (some (.ref f_plain_truth)))
    (l_plain_truth : K.lookup f_plain_truth = some ⟨oc_plain_truth, od_plain_truth, .func (PySem.W.fnOf "plain_truth" "plain_truth" (defArgs s_plain_truth) (defBody s_plain_truth) (defScope s_plain_truth) .none kV_plain_truth dc_plain_truth pm_plain_truth an_plain_truth cd_plain_truth ct_plain_truth), sl_plain_truth⟩)
    (c_plain_truth : PySem.W.codeIn K cd_plain_truth "plain_truth" = true) (k_plain_truth : PySem.W.keepIn K (.ref f_plain_truth) = true)
    (a_is_true_at : PySem.W.nsIn K mainGlobals "is_true_at" = some (some (.ref f_is_true_at)))
    (l_is_true_at : K.lookup f_is_true_at = some ⟨oc_is_true_at, od_is_true_at, .func (PySem.W.fnOf "is_true_at" "is_true_at" (defArgs s_is_true_at) (defBody s_is_true_at) (defScope s_is_true_at) .none kV_is_true_at dc_is_true_at pm_is_true_at an_is_true_at cd_is_true_at ct_is_true_at), sl_is_true_at⟩)
    (c_is_true_at : PySem.W.codeIn K cd_is_true_at "is_true_at" = true) (k_is_true_at : PySem.W.keepIn K (.ref f_is_true_at) = true)
    (a_check_clue : PySem.W.nsIn K mainGlobals "check_clue" = some (some (.ref f_check_clue)))
    (l_check_clue : K.lookup f_check_clue = some ⟨oc_check_clue, od_check_clue, .func (PySem.W.fnOf "check_clue" "check_clue" (defArgs s_check_clue) (defBody s_check_clue) (defScope s_check_clue) .none kV_check_clue dc_check_clue pm_check_clue an_check_clue cd_check_clue ct_check_clue), sl_check_clue⟩)
    (c_check_clue : PySem.W.codeIn K cd_check_clue "check_clue" = true) (k_check_clue : PySem.W.keepIn K (.ref f_check_clue) = true)
    (a_check_clues : PySem.W.nsIn K mainGlobals "check_clues" = some (some (.ref f_check_clues)))
    (l_check_clues : K.lookup f_check_clues = some ⟨oc_check_clues, od_check_clues, .func (PySem.W.fnOf "check_clues" "check_clues" (defArgs s_check_clues) (defBody s_check_clues) (defScope s_check_clues) .none kV_check_clues dc_check_clues pm_check_clues an_check_clues cd_check_clues ct_check_clues), sl_check_clues⟩)
    (c_check_clues : PySem.W.codeIn K cd_check_clues "check_clues" = true) (k_check_clues : PySem.W.keepIn K (.ref f_check_clues) = true)
    (a_all_cells : PySem.W.nsIn K mainGlobals "all_cells" = some (some (.ref f_all_cells)))
    (l_all_cells : K.lookup f_all_cells = some ⟨oc_all_cells, od_all_cells, .func (PySem.W.fnOf "all_cells" "all_cells" (defArgs s_all_cells) (defBody s_all_cells) (defScope s_all_cells) .none kV_all_cells dc_all_cells pm_all_cells an_all_cells cd_all_cells ct_all_cells), sl_all_cells⟩)
    (c_all_cells : PySem.W.codeIn K cd_all_cells "all_cells" = true) (k_all_cells : PySem.W.keepIn K (.ref f_all_cells) = true)
    (a_left_in : PySem.W.nsIn K mainGlobals "left_in" = some (some (.ref f_left_in)))
    (l_left_in : K.lookup f_left_in = some ⟨oc_left_in, od_left_in, .func (PySem.W.fnOf "left_in" "left_in" (defArgs s_left_in) (defBody s_left_in) (defScope s_left_in) .none kV_left_in dc_left_in pm_left_in an_left_in cd_left_in ct_left_in), sl_left_in⟩)
    (c_left_in : PySem.W.codeIn K cd_left_in "left_in" = true) (k_left_in : PySem.W.keepIn K (.ref f_left_in) = true)
    (a_cells_left : PySem.W.nsIn K mainGlobals "cells_left" = some (some (.ref f_cells_left)))
    (l_cells_left : K.lookup f_cells_left = some ⟨oc_cells_left, od_cells_left, .func (PySem.W.fnOf "cells_left" "cells_left" (defArgs s_cells_left) (defBody s_cells_left) (defScope s_cells_left) .none kV_cells_left dc_cells_left pm_cells_left an_cells_left cd_cells_left ct_cells_left), sl_cells_left⟩)
    (c_cells_left : PySem.W.codeIn K cd_cells_left "cells_left" = true) (k_cells_left : PySem.W.keepIn K (.ref f_cells_left) = true)
    (a_sure_box : PySem.W.nsIn K mainGlobals "sure_box" = some (some (.ref f_sure_box)))
    (l_sure_box : K.lookup f_sure_box = some ⟨oc_sure_box, od_sure_box, .func (PySem.W.fnOf "sure_box" "sure_box" (defArgs s_sure_box) (defBody s_sure_box) (defScope s_sure_box) .none kV_sure_box dc_sure_box pm_sure_box an_sure_box cd_sure_box ct_sure_box), sl_sure_box⟩)
    (c_sure_box : PySem.W.codeIn K cd_sure_box "sure_box" = true) (k_sure_box : PySem.W.keepIn K (.ref f_sure_box) = true)
    (a_what_is_told : PySem.W.nsIn K mainGlobals "what_is_told" = some (some (.ref f_what_is_told)))
    (l_what_is_told : K.lookup f_what_is_told = some ⟨oc_what_is_told, od_what_is_told, .func (PySem.W.fnOf "what_is_told" "what_is_told" (defArgs s_what_is_told) (defBody s_what_is_told) (defScope s_what_is_told) .none kV_what_is_told dc_what_is_told pm_what_is_told an_what_is_told cd_what_is_told ct_what_is_told), sl_what_is_told⟩)
    (c_what_is_told : PySem.W.codeIn K cd_what_is_told "what_is_told" = true) (k_what_is_told : PySem.W.keepIn K (.ref f_what_is_told) = true)
    (a__law_hash : PySem.W.nsIn K mainGlobals "_law_hash" = some (some (.ref f__law_hash)))
    (l__law_hash : K.lookup f__law_hash = some ⟨oc__law_hash, od__law_hash, .func (PySem.W.fnOf "_law_hash" "_law_hash" (defArgs s__law_hash) (defBody s__law_hash) (defScope s__law_hash) .none kV__law_hash dc__law_hash pm__law_hash an__law_hash cd__law_hash ct__law_hash), sl__law_hash⟩)
    (c__law_hash : PySem.W.codeIn K cd__law_hash "_law_hash" = true) (k__law_hash : PySem.W.keepIn K (.ref f__law_hash) = true)
    (a__law_random : PySem.W.nsIn K mainGlobals "_law_random" = some (some (.ref f__law_random)))
    (l__law_random : K.lookup f__law_random = some ⟨oc__law_random, od__law_random, .func (PySem.W.fnOf "_law_random" "_law_random" (defArgs s__law_random) (defBody s__law_random) (defScope s__law_random) .none kV__law_random dc__law_random pm__law_random an__law_random cd__law_random ct__law_random), sl__law_random⟩)
    (c__law_random : PySem.W.codeIn K cd__law_random "_law_random" = true) (k__law_random : PySem.W.keepIn K (.ref f__law_random) = true)
    (a__law_cell : PySem.W.nsIn K mainGlobals "_law_cell" = some (some (.ref f__law_cell)))
    (l__law_cell : K.lookup f__law_cell = some ⟨oc__law_cell, od__law_cell, .func (PySem.W.fnOf "_law_cell" "_law_cell" (defArgs s__law_cell) (defBody s__law_cell) (defScope s__law_cell) .none kV__law_cell dc__law_cell pm__law_cell an__law_cell cd__law_cell ct__law_cell), sl__law_cell⟩)
    (c__law_cell : PySem.W.codeIn K cd__law_cell "_law_cell" = true) (k__law_cell : PySem.W.keepIn K (.ref f__law_cell) = true)
    (a__law_generator : PySem.W.nsIn K mainGlobals "_law_generator" = some (some (.ref f__law_generator)))
    (l__law_generator : K.lookup f__law_generator = some ⟨oc__law_generator, od__law_generator, .func (PySem.W.fnOf "_law_generator" "_law_generator" (defArgs s__law_generator) (defBody s__law_generator) (defScope s__law_generator) .none kV__law_generator dc__law_generator pm__law_generator an__law_generator cd__law_generator ct__law_generator), sl__law_generator⟩)
    (c__law_generator : PySem.W.codeIn K cd__law_generator "_law_generator" = true) (k__law_generator : PySem.W.keepIn K (.ref f__law_generator) = true)
    (a__law_pick : PySem.W.nsIn K mainGlobals "_law_pick" = some (some (.ref f__law_pick)))
    (l__law_pick : K.lookup f__law_pick = some ⟨oc__law_pick, od__law_pick, .func (PySem.W.fnOf "_law_pick" "_law_pick" (defArgs s__law_pick) (defBody s__law_pick) (defScope s__law_pick) .none kV__law_pick dc__law_pick pm__law_pick an__law_pick cd__law_pick ct__law_pick), sl__law_pick⟩)
    (c__law_pick : PySem.W.codeIn K cd__law_pick "_law_pick" = true) (k__law_pick : PySem.W.keepIn K (.ref f__law_pick) = true)
    (a__law_same : PySem.W.nsIn K mainGlobals "_law_same" = some (some (.ref f__law_same)))
    (l__law_same : K.lookup f__law_same = some ⟨oc__law_same, od__law_same, .func (PySem.W.fnOf "_law_same" "_law_same" (defArgs s__law_same) (defBody s__law_same) (defScope s__law_same) .none kV__law_same dc__law_same pm__law_same an__law_same cd__law_same ct__law_same), sl__law_same⟩)
    (c__law_same : PySem.W.codeIn K cd__law_same "_law_same" = true) (k__law_same : PySem.W.keepIn K (.ref f__law_same) = true)
    (a__law_cells : PySem.W.nsIn K mainGlobals "_law_cells" = some (some (.ref f__law_cells)))
    (l__law_cells : K.lookup f__law_cells = some ⟨oc__law_cells, od__law_cells, .func (PySem.W.fnOf "_law_cells" "_law_cells" (defArgs s__law_cells) (defBody s__law_cells) (defScope s__law_cells) .none kV__law_cells dc__law_cells pm__law_cells an__law_cells cd__law_cells ct__law_cells), sl__law_cells⟩)
    (c__law_cells : PySem.W.codeIn K cd__law_cells "_law_cells" = true) (k__law_cells : PySem.W.keepIn K (.ref f__law_cells) = true)
    (a__law_grid : PySem.W.nsIn K mainGlobals "_law_grid" = some (some (.ref f__law_grid)))
    (l__law_grid : K.lookup f__law_grid = some ⟨oc__law_grid, od__law_grid, .func (PySem.W.fnOf "_law_grid" "_law_grid" (defArgs s__law_grid) (defBody s__law_grid) (defScope s__law_grid) .none kV__law_grid dc__law_grid pm__law_grid an__law_grid cd__law_grid ct__law_grid), sl__law_grid⟩)
    (c__law_grid : PySem.W.codeIn K cd__law_grid "_law_grid" = true) (k__law_grid : PySem.W.keepIn K (.ref f__law_grid) = true)
    (a__law_plain : PySem.W.nsIn K mainGlobals "_law_plain" = some (some (.ref f__law_plain)))
    (l__law_plain : K.lookup f__law_plain = some ⟨oc__law_plain, od__law_plain, .func (PySem.W.fnOf "_law_plain" "_law_plain" (defArgs s__law_plain) (defBody s__law_plain) (defScope s__law_plain) .none kV__law_plain dc__law_plain pm__law_plain an__law_plain cd__law_plain ct__law_plain), sl__law_plain⟩)
    (c__law_plain : PySem.W.codeIn K cd__law_plain "_law_plain" = true) (k__law_plain : PySem.W.keepIn K (.ref f__law_plain) = true)
    (a__law_clue : PySem.W.nsIn K mainGlobals "_law_clue" = some (some (.ref f__law_clue)))
    (l__law_clue : K.lookup f__law_clue = some ⟨oc__law_clue, od__law_clue, .func (PySem.W.fnOf "_law_clue" "_law_clue" (defArgs s__law_clue) (defBody s__law_clue) (defScope s__law_clue) .none kV__law_clue dc__law_clue pm__law_clue an__law_clue cd__law_clue ct__law_clue), sl__law_clue⟩)
    (c__law_clue : PySem.W.codeIn K cd__law_clue "_law_clue" = true) (k__law_clue : PySem.W.keepIn K (.ref f__law_clue) = true)
    (a__law_holds : PySem.W.nsIn K mainGlobals "_law_holds" = some (some (.ref f__law_holds)))
    (l__law_holds : K.lookup f__law_holds = some ⟨oc__law_holds, od__law_holds, .func (PySem.W.fnOf "_law_holds" "_law_holds" (defArgs s__law_holds) (defBody s__law_holds) (defScope s__law_holds) .none kV__law_holds dc__law_holds pm__law_holds an__law_holds cd__law_holds ct__law_holds), sl__law_holds⟩)
    (c__law_holds : PySem.W.codeIn K cd__law_holds "_law_holds" = true) (k__law_holds : PySem.W.keepIn K (.ref f__law_holds) = true)
    (a__law_left : PySem.W.nsIn K mainGlobals "_law_left" = some (some (.ref f__law_left)))
    (l__law_left : K.lookup f__law_left = some ⟨oc__law_left, od__law_left, .func (PySem.W.fnOf "_law_left" "_law_left" (defArgs s__law_left) (defBody s__law_left) (defScope s__law_left) .none kV__law_left dc__law_left pm__law_left an__law_left cd__law_left ct__law_left), sl__law_left⟩)
    (c__law_left : PySem.W.codeIn K cd__law_left "_law_left" = true) (k__law_left : PySem.W.keepIn K (.ref f__law_left) = true)
    (a__law_word : PySem.W.nsIn K mainGlobals "_law_word" = some (some (.ref f__law_word)))
    (l__law_word : K.lookup f__law_word = some ⟨oc__law_word, od__law_word, .func (PySem.W.fnOf "_law_word" "_law_word" (defArgs s__law_word) (defBody s__law_word) (defScope s__law_word) .none kV__law_word dc__law_word pm__law_word an__law_word cd__law_word ct__law_word), sl__law_word⟩)
    (c__law_word : PySem.W.codeIn K cd__law_word "_law_word" = true) (k__law_word : PySem.W.keepIn K (.ref f__law_word) = true)
    (a__law_right : PySem.W.nsIn K mainGlobals "_law_right" = some (some (.ref f__law_right)))
    (l__law_right : K.lookup f__law_right = some ⟨oc__law_right, od__law_right, .func (PySem.W.fnOf "_law_right" "_law_right" (defArgs s__law_right) (defBody s__law_right) (defScope s__law_right) .none kV__law_right dc__law_right pm__law_right an__law_right cd__law_right ct__law_right), sl__law_right⟩)
    (c__law_right : PySem.W.codeIn K cd__law_right "_law_right" = true) (k__law_right : PySem.W.keepIn K (.ref f__law_right) = true)
    (a_law : PySem.W.nsIn K mainGlobals "law" = some (some (.ref f_law)))
    (l_law : K.lookup f_law = some ⟨oc_law, od_law, .func (PySem.W.fnOf "law" "law" (defArgs s_law) (defBody s_law) (defScope s_law) .none kV_law dc_law pm_law an_law cd_law ct_law), sl_law⟩)
    (c_law : PySem.W.codeIn K cd_law "law" = true) (k_law : PySem.W.keepIn K (.ref f_law) = true)
    (z_abs : PySem.W.nsIn K mainGlobals "abs" = some none)
    (z_all : PySem.W.nsIn K mainGlobals "all" = some none)
    (z_any : PySem.W.nsIn K mainGlobals "any" = some none)
    (z_bool : PySem.W.nsIn K mainGlobals "bool" = some none)
    (z_dict : PySem.W.nsIn K mainGlobals "dict" = some none)
    (z_int : PySem.W.nsIn K mainGlobals "int" = some none)
    (z_isinstance : PySem.W.nsIn K mainGlobals "isinstance" = some none)
    (z_len : PySem.W.nsIn K mainGlobals "len" = some none)
    (z_list : PySem.W.nsIn K mainGlobals "list" = some none)
    (z_max : PySem.W.nsIn K mainGlobals "max" = some none)
    (z_min : PySem.W.nsIn K mainGlobals "min" = some none)
    (z_range : PySem.W.nsIn K mainGlobals "range" = some none)
    (z_repr : PySem.W.nsIn K mainGlobals "repr" = some none)
    (z_sorted : PySem.W.nsIn K mainGlobals "sorted" = some none)
    (z_str : PySem.W.nsIn K mainGlobals "str" = some none)
    (z_sum : PySem.W.nsIn K mainGlobals "sum" = some none)
    (z_tuple : PySem.W.nsIn K mainGlobals "tuple" = some none)
    (z_zip : PySem.W.nsIn K mainGlobals "zip" = some none)
    : ∃ fd : FuncData, (∀ (s : Shared) (v : Value), BindsTo s fd ⟨[v], []⟩ [("script", v)]) ∧ ∀ base : Heap, K.In base → base.Ns mainGlobals mg → base.NoDigits → FnG l.prog w K mg base 16 fa fd ["script"] (spL K fn_law) := by
  have e := hfa.symm.trans (PySem.W.mg_of X G a_law)
  cases e
  have F_is_whole := fun_mk (st := s_is_whole) l_is_whole c_is_whole k_is_whole
  have b_is_whole := F_is_whole.binds (ps := ["value"]) fun _ _ _ _ _ _ us hl => match us, hl with | [_], _ => rfl
  have F_is_count := fun_mk (st := s_is_count) l_is_count c_is_count k_is_count
  have b_is_count := F_is_count.binds (ps := ["value"]) fun _ _ _ _ _ _ us hl => match us, hl with | [_], _ => rfl
  have F_is_grid := fun_mk (st := s_is_grid) l_is_grid c_is_grid k_is_grid
  have b_is_grid := F_is_grid.binds (ps := ["value"]) fun _ _ _ _ _ _ us hl => match us, hl with | [_], _ => rfl
  have F_check_grid := fun_mk (st := s_check_grid) l_check_grid c_check_grid k_check_grid
  have b_check_grid := F_check_grid.binds (ps := ["grid"]) fun _ _ _ _ _ _ us hl => match us, hl with | [_], _ => rfl
  have F_is_cell := fun_mk (st := s_is_cell) l_is_cell c_is_cell k_is_cell
  have b_is_cell := F_is_cell.binds (ps := ["grid", "value"]) fun _ _ _ _ _ _ us hl => match us, hl with | [_, _], _ => rfl
  have F_parts_of_clue := fun_mk (st := s_parts_of_clue) l_parts_of_clue c_parts_of_clue k_parts_of_clue
  have b_parts_of_clue := F_parts_of_clue.binds (ps := ["value"]) fun _ _ _ _ _ _ us hl => match us, hl with | [_], _ => rfl
  have F_is_plain_clue := fun_mk (st := s_is_plain_clue) l_is_plain_clue c_is_plain_clue k_is_plain_clue
  have b_is_plain_clue := F_is_plain_clue.binds (ps := ["grid", "value"]) fun _ _ _ _ _ _ us hl => match us, hl with | [_, _], _ => rfl
  have F_is_clue_of := fun_mk (st := s_is_clue_of) l_is_clue_of c_is_clue_of k_is_clue_of
  have b_is_clue_of := F_is_clue_of.binds (ps := ["grid", "value"]) fun _ _ _ _ _ _ us hl => match us, hl with | [_, _], _ => rfl
  have F_plain_truth := fun_mk (st := s_plain_truth) l_plain_truth c_plain_truth k_plain_truth
  have b_plain_truth := F_plain_truth.binds (ps := ["clue", "cell"]) fun _ _ _ _ _ _ us hl => match us, hl with | [_, _], _ => rfl
  have F_is_true_at := fun_mk (st := s_is_true_at) l_is_true_at c_is_true_at k_is_true_at
  have b_is_true_at := F_is_true_at.binds (ps := ["clue", "cell"]) fun _ _ _ _ _ _ us hl => match us, hl with | [_, _], _ => rfl
  have F_check_clue := fun_mk (st := s_check_clue) l_check_clue c_check_clue k_check_clue
  have b_check_clue := F_check_clue.binds (ps := ["grid", "clue"]) fun _ _ _ _ _ _ us hl => match us, hl with | [_, _], _ => rfl
  have F_check_clues := fun_mk (st := s_check_clues) l_check_clues c_check_clues k_check_clues
  have b_check_clues := F_check_clues.binds (ps := ["grid", "clues"]) fun _ _ _ _ _ _ us hl => match us, hl with | [_, _], _ => rfl
  have F_all_cells := fun_mk (st := s_all_cells) l_all_cells c_all_cells k_all_cells
  have b_all_cells := F_all_cells.binds (ps := ["grid"]) fun _ _ _ _ _ _ us hl => match us, hl with | [_], _ => rfl
  have F_left_in := fun_mk (st := s_left_in) l_left_in c_left_in k_left_in
  have b_left_in := F_left_in.binds (ps := ["grid", "clues"]) fun _ _ _ _ _ _ us hl => match us, hl with | [_, _], _ => rfl
  have F_cells_left := fun_mk (st := s_cells_left) l_cells_left c_cells_left k_cells_left
  have b_cells_left := F_cells_left.binds (ps := ["grid", "clues"]) fun _ _ _ _ _ _ us hl => match us, hl with | [_, _], _ => rfl
  have F_sure_box := fun_mk (st := s_sure_box) l_sure_box c_sure_box k_sure_box
  have b_sure_box := F_sure_box.binds (ps := ["grid", "clues"]) fun _ _ _ _ _ _ us hl => match us, hl with | [_, _], _ => rfl
  have F_what_is_told := fun_mk (st := s_what_is_told) l_what_is_told c_what_is_told k_what_is_told
  have b_what_is_told := F_what_is_told.binds (ps := ["grid", "clues", "clue"]) fun _ _ _ _ _ _ us hl => match us, hl with | [_, _, _], _ => rfl
  have F__law_hash := fun_mk (st := s__law_hash) l__law_hash c__law_hash k__law_hash
  have b__law_hash := F__law_hash.binds (ps := ["seed", "index"]) fun _ _ _ _ _ _ us hl => match us, hl with | [_, _], _ => rfl
  have F__law_random := fun_mk (st := s__law_random) l__law_random c__law_random k__law_random
  have b__law_random := F__law_random.binds (ps := ["generator", "bound"]) fun _ _ _ _ _ _ us hl => match us, hl with | [_, _], _ => rfl
  have F__law_cell := fun_mk (st := s__law_cell) l__law_cell c__law_cell k__law_cell
  have b__law_cell := F__law_cell.binds (ps := ["script", "index"]) fun _ _ _ _ _ _ us hl => match us, hl with | [_, _], _ => rfl
  have F__law_generator := fun_mk (st := s__law_generator) l__law_generator c__law_generator k__law_generator
  have b__law_generator := F__law_generator.binds (ps := ["script", "index"]) fun _ _ _ _ _ _ us hl => match us, hl with | [_, _], _ => rfl
  have F__law_pick := fun_mk (st := s__law_pick) l__law_pick c__law_pick k__law_pick
  have b__law_pick := F__law_pick.binds (ps := ["generator", "things"]) fun _ _ _ _ _ _ us hl => match us, hl with | [_, _], _ => rfl
  have F__law_same := fun_mk (st := s__law_same) l__law_same c__law_same k__law_same
  have b__law_same := F__law_same.binds (ps := ["found", "due"]) fun _ _ _ _ _ _ us hl => match us, hl with | [_, _], _ => rfl
  have F__law_cells := fun_mk (st := s__law_cells) l__law_cells c__law_cells k__law_cells
  have b__law_cells := F__law_cells.binds (ps := ["grid"]) fun _ _ _ _ _ _ us hl => match us, hl with | [_], _ => rfl
  have F__law_grid := fun_mk (st := s__law_grid) l__law_grid c__law_grid k__law_grid
  have b__law_grid := F__law_grid.binds (ps := ["generator", "most"]) fun _ _ _ _ _ _ us hl => match us, hl with | [_, _], _ => rfl
  have F__law_plain := fun_mk (st := s__law_plain) l__law_plain c__law_plain k__law_plain
  have b__law_plain := F__law_plain.binds (ps := ["generator", "grid"]) fun _ _ _ _ _ _ us hl => match us, hl with | [_, _], _ => rfl
  have F__law_clue := fun_mk (st := s__law_clue) l__law_clue c__law_clue k__law_clue
  have b__law_clue := F__law_clue.binds (ps := ["generator", "grid", "deep"]) fun _ _ _ _ _ _ us hl => match us, hl with | [_, _, _], _ => rfl
  have F__law_holds := fun_mk (st := s__law_holds) l__law_holds c__law_holds k__law_holds
  have b__law_holds := F__law_holds.binds (ps := ["clue", "cell"]) fun _ _ _ _ _ _ us hl => match us, hl with | [_, _], _ => rfl
  have F__law_left := fun_mk (st := s__law_left) l__law_left c__law_left k__law_left
  have b__law_left := F__law_left.binds (ps := ["grid", "clues"]) fun _ _ _ _ _ _ us hl => match us, hl with | [_, _], _ => rfl
  have F__law_word := fun_mk (st := s__law_word) l__law_word c__law_word k__law_word
  have b__law_word := F__law_word.binds (ps := ["grid", "clues", "clue"]) fun _ _ _ _ _ _ us hl => match us, hl with | [_, _, _], _ => rfl
  have F__law_right := fun_mk (st := s__law_right) l__law_right c__law_right k__law_right
  have b__law_right := F__law_right.binds (ps := ["generator", "grid", "clues"]) fun _ _ _ _ _ _ us hl => match us, hl with | [_, _, _], _ => rfl
  have F_law := fun_mk (st := s_law) l_law c_law k_law
  refine ⟨PySem.W.fnOf "law" "law" (defArgs s_law) (defBody s_law) (defScope s_law) .none kV_law dc_law pm_law an_law cd_law ct_law, fun s v => .of_eq rfl, fun base _ _ nd => ?_⟩
  have GL : Glb mg base := ⟨nd, PySem.W.mg_none_of X G z_abs, PySem.W.mg_none_of X G z_all, PySem.W.mg_none_of X G z_any, PySem.W.mg_none_of X G z_bool, PySem.W.mg_none_of X G z_dict, PySem.W.mg_none_of X G z_int, PySem.W.mg_none_of X G z_isinstance, PySem.W.mg_none_of X G z_len, PySem.W.mg_none_of X G z_list, PySem.W.mg_none_of X G z_max, PySem.W.mg_none_of X G z_min, PySem.W.mg_none_of X G z_range, PySem.W.mg_none_of X G z_repr, PySem.W.mg_none_of X G z_sorted, PySem.W.mg_none_of X G z_str, PySem.W.mg_none_of X G z_sum, PySem.W.mg_none_of X G z_tuple, PySem.W.mg_none_of X G z_zip⟩
  have o_is_whole := ok_is_whole (P := l.prog) (w := w) (base := base) F_is_whole GL
  have C_is_whole := mkCal o_is_whole (PySem.W.mg_of X G a_is_whole) k_is_whole b_is_whole
  have o_is_count := ok_is_count (P := l.prog) (w := w) (base := base) F_is_count GL C_is_whole
  have C_is_count := mkCal o_is_count (PySem.W.mg_of X G a_is_count) k_is_count b_is_count
  have o_is_grid := ok_is_grid (P := l.prog) (w := w) (base := base) F_is_grid GL C_is_whole
  have C_is_grid := mkCal o_is_grid (PySem.W.mg_of X G a_is_grid) k_is_grid b_is_grid
  have o_check_grid := ok_check_grid (P := l.prog) (w := w) (base := base) F_check_grid GL C_is_grid
  have C_check_grid := mkCal o_check_grid (PySem.W.mg_of X G a_check_grid) k_check_grid b_check_grid
  have o_is_cell := ok_is_cell (P := l.prog) (w := w) (base := base) F_is_cell GL C_is_count
  have C_is_cell := mkCal o_is_cell (PySem.W.mg_of X G a_is_cell) k_is_cell b_is_cell
  have o_parts_of_clue := ok_parts_of_clue (P := l.prog) (w := w) (base := base) F_parts_of_clue GL
  have C_parts_of_clue := mkCal o_parts_of_clue (PySem.W.mg_of X G a_parts_of_clue) k_parts_of_clue b_parts_of_clue
  have o_is_plain_clue := ok_is_plain_clue (P := l.prog) (w := w) (base := base) F_is_plain_clue GL C_is_count C_is_cell
  have C_is_plain_clue := mkCal o_is_plain_clue (PySem.W.mg_of X G a_is_plain_clue) k_is_plain_clue b_is_plain_clue
  have o_is_clue_of := ok_is_clue_of (P := l.prog) (w := w) (base := base) F_is_clue_of GL C_parts_of_clue C_is_plain_clue
  have C_is_clue_of := mkCal o_is_clue_of (PySem.W.mg_of X G a_is_clue_of) k_is_clue_of b_is_clue_of
  have o_plain_truth := ok_plain_truth (P := l.prog) (w := w) (base := base) F_plain_truth GL
  have C_plain_truth := mkCal o_plain_truth (PySem.W.mg_of X G a_plain_truth) k_plain_truth b_plain_truth
  have o_is_true_at : ∀ n, FnG l.prog w K mg base (2 + n) f_is_true_at _ ["clue", "cell"] (spD (fn_is_true_at n)) := fun n => by
    induction n with
    | zero => exact FnG.void fun _ _ ⟨_, _, _, h, _⟩ => absurd h (Nat.not_lt_zero _)
    | succ n ih => exact ok_is_true_at (lev := 2 + n) F_is_true_at GL (by omega) (mkCal ih (PySem.W.mg_of X G a_is_true_at) k_is_true_at b_is_true_at) C_plain_truth
  have C_is_true_at := mkCal (o_is_true_at 6) (PySem.W.mg_of X G a_is_true_at) k_is_true_at b_is_true_at
  have o_check_clue := ok_check_clue (P := l.prog) (w := w) (base := base) F_check_clue GL C_is_clue_of
  have C_check_clue := mkCal o_check_clue (PySem.W.mg_of X G a_check_clue) k_check_clue b_check_clue
  have o_check_clues := ok_check_clues (P := l.prog) (w := w) (base := base) F_check_clues GL C_check_grid C_is_clue_of
  have C_check_clues := mkCal o_check_clues (PySem.W.mg_of X G a_check_clues) k_check_clues b_check_clues
  have o_all_cells := ok_all_cells (P := l.prog) (w := w) (base := base) F_all_cells GL
  have C_all_cells := mkCal o_all_cells (PySem.W.mg_of X G a_all_cells) k_all_cells b_all_cells
  have o_left_in := ok_left_in (P := l.prog) (w := w) (base := base) F_left_in GL C_is_true_at C_all_cells
  have C_left_in := mkCal o_left_in (PySem.W.mg_of X G a_left_in) k_left_in b_left_in
  have o_cells_left := ok_cells_left (P := l.prog) (w := w) (base := base) F_cells_left GL C_check_clues C_left_in
  have C_cells_left := mkCal o_cells_left (PySem.W.mg_of X G a_cells_left) k_cells_left b_cells_left
  have K_cells_left_clues_grid : CalK l.prog w K mg base 10 "cells_left" ["grid", "clues"] ["clues", "grid"] [1, 0] (spN fn_cells_left) := ⟨⟨_, _, o_cells_left, PySem.W.mg_of X G a_cells_left, k_cells_left, fun s ws h => match ws, h with | [_, _], _ => .of_eq rfl⟩⟩
  have o_sure_box := ok_sure_box (P := l.prog) (w := w) (base := base) F_sure_box GL C_check_clues C_left_in
  have C_sure_box := mkCal o_sure_box (PySem.W.mg_of X G a_sure_box) k_sure_box b_sure_box
  have K_sure_box_clues_grid : CalK l.prog w K mg base 11 "sure_box" ["grid", "clues"] ["clues", "grid"] [1, 0] (spD fn_sure_box) := ⟨⟨_, _, o_sure_box, PySem.W.mg_of X G a_sure_box, k_sure_box, fun s ws h => match ws, h with | [_, _], _ => .of_eq rfl⟩⟩
  have o_what_is_told := ok_what_is_told (P := l.prog) (w := w) (base := base) F_what_is_told GL C_check_clues C_check_clue C_left_in C_is_true_at
  have C_what_is_told := mkCal o_what_is_told (PySem.W.mg_of X G a_what_is_told) k_what_is_told b_what_is_told
  have K_what_is_told_clue_clues_grid : CalK l.prog w K mg base 11 "what_is_told" ["grid", "clues", "clue"] ["clue", "clues", "grid"] [2, 1, 0] (spD fn_what_is_told) := ⟨⟨_, _, o_what_is_told, PySem.W.mg_of X G a_what_is_told, k_what_is_told, fun s ws h => match ws, h with | [_, _, _], _ => .of_eq rfl⟩⟩
  have o__law_hash := ok__law_hash (P := l.prog) (w := w) (base := base) F__law_hash GL
  have C__law_hash := mkCal o__law_hash (PySem.W.mg_of X G a__law_hash) k__law_hash b__law_hash
  have o__law_random := ok__law_random (P := l.prog) (w := w) (base := base) F__law_random GL C__law_hash
  have C__law_random := mkCal o__law_random (PySem.W.mg_of X G a__law_random) k__law_random b__law_random
  have o__law_cell := ok__law_cell (P := l.prog) (w := w) (base := base) F__law_cell GL
  have C__law_cell := mkCal o__law_cell (PySem.W.mg_of X G a__law_cell) k__law_cell b__law_cell
  have o__law_generator := ok__law_generator (P := l.prog) (w := w) (base := base) F__law_generator GL C__law_cell
  have C__law_generator := mkCal o__law_generator (PySem.W.mg_of X G a__law_generator) k__law_generator b__law_generator
  have o__law_pick := ok__law_pick (P := l.prog) (w := w) (base := base) F__law_pick GL C__law_random
  have C__law_pick := mkCal o__law_pick (PySem.W.mg_of X G a__law_pick) k__law_pick b__law_pick
  have o__law_same : ∀ n, FnG l.prog w K mg base (1 + n) f__law_same _ ["found", "due"] (spD (fn_law_same n)) := fun n => by
    induction n with
    | zero => exact FnG.void fun _ _ ⟨_, _, h, _⟩ => h
    | succ n ih => exact ok__law_same (lev := 1 + n) F__law_same GL (by omega) (mkCal ih (PySem.W.mg_of X G a__law_same) k__law_same b__law_same)
  have C__law_same := mkCal (o__law_same 12) (PySem.W.mg_of X G a__law_same) k__law_same b__law_same
  have o__law_cells := ok__law_cells (P := l.prog) (w := w) (base := base) F__law_cells GL
  have C__law_cells := mkCal o__law_cells (PySem.W.mg_of X G a__law_cells) k__law_cells b__law_cells
  have o__law_grid := ok__law_grid (P := l.prog) (w := w) (base := base) F__law_grid GL C__law_random
  have C__law_grid := mkCal o__law_grid (PySem.W.mg_of X G a__law_grid) k__law_grid b__law_grid
  have o__law_plain := ok__law_plain (P := l.prog) (w := w) (base := base) F__law_plain GL C__law_cells C__law_random C__law_pick
  have C__law_plain := mkCal o__law_plain (PySem.W.mg_of X G a__law_plain) k__law_plain b__law_plain
  have o__law_clue : ∀ n, FnG l.prog w K mg base (5 + n) f__law_clue _ ["generator", "grid", "deep"] (spG (fn_law_clue n)) := fun n => by
    induction n with
    | zero => exact FnG.voidG fun _ _ _ ⟨_, _, _, _, _, _, h, _⟩ => absurd h (Nat.not_lt_zero _)
    | succ n ih => exact ok__law_clue (lev := 5 + n) F__law_clue GL (by omega) (mkCal ih (PySem.W.mg_of X G a__law_clue) k__law_clue b__law_clue) C__law_random C__law_plain
  have C__law_clue := mkCal (o__law_clue 5) (PySem.W.mg_of X G a__law_clue) k__law_clue b__law_clue
  have o__law_holds : ∀ n, FnG l.prog w K mg base (1 + n) f__law_holds _ ["clue", "cell"] (spD (fn_law_holds n)) := fun n => by
    induction n with
    | zero => exact FnG.void fun _ _ ⟨_, _, _, h, _⟩ => absurd h (Nat.not_lt_zero _)
    | succ n ih => exact ok__law_holds (lev := 1 + n) F__law_holds GL (by omega) (mkCal ih (PySem.W.mg_of X G a__law_holds) k__law_holds b__law_holds)
  have C__law_holds := mkCal (o__law_holds 6) (PySem.W.mg_of X G a__law_holds) k__law_holds b__law_holds
  have o__law_left := ok__law_left (P := l.prog) (w := w) (base := base) F__law_left GL C__law_holds C__law_cells
  have C__law_left := mkCal o__law_left (PySem.W.mg_of X G a__law_left) k__law_left b__law_left
  have o__law_word := ok__law_word (P := l.prog) (w := w) (base := base) F__law_word GL C__law_left C__law_holds
  have C__law_word := mkCal o__law_word (PySem.W.mg_of X G a__law_word) k__law_word b__law_word
  have o__law_right := ok__law_right (P := l.prog) (w := w) (base := base) F__law_right GL C__law_left C_cells_left C__law_same C_sure_box C__law_clue C__law_word C_what_is_told K_cells_left_clues_grid K_sure_box_clues_grid K_what_is_told_clue_clues_grid
  have C__law_right := mkCal o__law_right (PySem.W.mg_of X G a__law_right) k__law_right b__law_right
  exact ok_law F_law GL C__law_generator C__law_grid C__law_clue C__law_random C__law_right C__law_same C_what_is_told C_sure_box C_cells_left
end K34
open PySem PySem.W PyProof.Rows
set_option maxHeartbeats 0 in
theorem PySem.Challenge.cw_cluehunt_k34_whole_cells_left_holds : PySem.Challenge.rw_cluehunt_k34_whole_cells_left.Holds := by
  w_on; o_law; k_head; (case hw => w_witness2)
  k_fill
  refine DL.walk_ofG (l := PySem.Challenge.rw_cluehunt_k34_whole_cells_left) (n := 63) (k := 16) (x := "script") (sp := fun w => DL.spL _ K34.fn_law) rfl (by decide) rfl ⟨rfl, by decide, by decide⟩ (fun w h Y => PySem.W.kIn_of Y) ?F (fun w H a ns hl hO hS => DL.end_ok (fun ns => K34.fn_law_true ns) hO hS)
  case F =>
    intro w mg fa h KX G hmg
    refine' K34.all_mk KX G hmg ?a_is_whole ?l_is_whole ?c_is_whole ?k_is_whole ?a_is_count ?l_is_count ?c_is_count ?k_is_count ?a_is_grid ?l_is_grid ?c_is_grid ?k_is_grid ?a_check_grid ?l_check_grid ?c_check_grid ?k_check_grid ?a_is_cell ?l_is_cell ?c_is_cell ?k_is_cell ?a_parts_of_clue ?l_parts_of_clue ?c_parts_of_clue ?k_parts_of_clue ?a_is_plain_clue ?l_is_plain_clue ?c_is_plain_clue ?k_is_plain_clue ?a_is_clue_of ?l_is_clue_of ?c_is_clue_of ?k_is_clue_of ?a_plain_truth ?l_plain_truth ?c_plain_truth ?k_plain_truth ?a_is_true_at ?l_is_true_at ?c_is_true_at ?k_is_true_at ?a_check_clue ?l_check_clue ?c_check_clue ?k_check_clue ?a_check_clues ?l_check_clues ?c_check_clues ?k_check_clues ?a_all_cells ?l_all_cells ?c_all_cells ?k_all_cells ?a_left_in ?l_left_in ?c_left_in ?k_left_in ?a_cells_left ?l_cells_left ?c_cells_left ?k_cells_left ?a_sure_box ?l_sure_box ?c_sure_box ?k_sure_box ?a_what_is_told ?l_what_is_told ?c_what_is_told ?k_what_is_told ?a__law_hash ?l__law_hash ?c__law_hash ?k__law_hash ?a__law_random ?l__law_random ?c__law_random ?k__law_random ?a__law_cell ?l__law_cell ?c__law_cell ?k__law_cell ?a__law_generator ?l__law_generator ?c__law_generator ?k__law_generator ?a__law_pick ?l__law_pick ?c__law_pick ?k__law_pick ?a__law_same ?l__law_same ?c__law_same ?k__law_same ?a__law_cells ?l__law_cells ?c__law_cells ?k__law_cells ?a__law_grid ?l__law_grid ?c__law_grid ?k__law_grid ?a__law_plain ?l__law_plain ?c__law_plain ?k__law_plain ?a__law_clue ?l__law_clue ?c__law_clue ?k__law_clue ?a__law_holds ?l__law_holds ?c__law_holds ?k__law_holds ?a__law_left ?l__law_left ?c__law_left ?k__law_left ?a__law_word ?l__law_word ?c__law_word ?k__law_word ?a__law_right ?l__law_right ?c__law_right ?k__law_right ?a_law ?l_law ?c_law ?k_law ?z_abs ?z_all ?z_any ?z_bool ?z_dict ?z_int ?z_isinstance ?z_len ?z_list ?z_max ?z_min ?z_range ?z_repr ?z_sorted ?z_str ?z_sum ?z_tuple ?z_zip
    (case a_is_whole => k_is); (case l_is_whole => k_is); (case c_is_whole => k_is); (case k_is_whole => k_is); (case a_is_count => k_is); (case l_is_count => k_is); (case c_is_count => k_is); (case k_is_count => k_is)
    (case a_is_grid => k_is); (case l_is_grid => k_is); (case c_is_grid => k_is); (case k_is_grid => k_is); (case a_check_grid => k_is); (case l_check_grid => k_is); (case c_check_grid => k_is); (case k_check_grid => k_is)
    (case a_is_cell => k_is); (case l_is_cell => k_is); (case c_is_cell => k_is); (case k_is_cell => k_is); (case a_parts_of_clue => k_is); (case l_parts_of_clue => k_is); (case c_parts_of_clue => k_is); (case k_parts_of_clue => k_is)
    (case a_is_plain_clue => k_is); (case l_is_plain_clue => k_is); (case c_is_plain_clue => k_is); (case k_is_plain_clue => k_is); (case a_is_clue_of => k_is); (case l_is_clue_of => k_is); (case c_is_clue_of => k_is); (case k_is_clue_of => k_is)
    (case a_plain_truth => k_is); (case l_plain_truth => k_is); (case c_plain_truth => k_is); (case k_plain_truth => k_is); (case a_is_true_at => k_is); (case l_is_true_at => k_is); (case c_is_true_at => k_is); (case k_is_true_at => k_is)
    (case a_check_clue => k_is); (case l_check_clue => k_is); (case c_check_clue => k_is); (case k_check_clue => k_is); (case a_check_clues => k_is); (case l_check_clues => k_is); (case c_check_clues => k_is); (case k_check_clues => k_is)
    (case a_all_cells => k_is); (case l_all_cells => k_is); (case c_all_cells => k_is); (case k_all_cells => k_is); (case a_left_in => k_is); (case l_left_in => k_is); (case c_left_in => k_is); (case k_left_in => k_is)
    (case a_cells_left => k_is); (case l_cells_left => k_is); (case c_cells_left => k_is); (case k_cells_left => k_is); (case a_sure_box => k_is); (case l_sure_box => k_is); (case c_sure_box => k_is); (case k_sure_box => k_is)
    (case a_what_is_told => k_is); (case l_what_is_told => k_is); (case c_what_is_told => k_is); (case k_what_is_told => k_is); (case a__law_hash => k_is); (case l__law_hash => k_is); (case c__law_hash => k_is); (case k__law_hash => k_is)
    (case a__law_random => k_is); (case l__law_random => k_is); (case c__law_random => k_is); (case k__law_random => k_is); (case a__law_cell => k_is); (case l__law_cell => k_is); (case c__law_cell => k_is); (case k__law_cell => k_is)
    (case a__law_generator => k_is); (case l__law_generator => k_is); (case c__law_generator => k_is); (case k__law_generator => k_is); (case a__law_pick => k_is); (case l__law_pick => k_is); (case c__law_pick => k_is); (case k__law_pick => k_is)
    (case a__law_same => k_is); (case l__law_same => k_is); (case c__law_same => k_is); (case k__law_same => k_is); (case a__law_cells => k_is); (case l__law_cells => k_is); (case c__law_cells => k_is); (case k__law_cells => k_is)
    (case a__law_grid => k_is); (case l__law_grid => k_is); (case c__law_grid => k_is); (case k__law_grid => k_is); (case a__law_plain => k_is); (case l__law_plain => k_is); (case c__law_plain => k_is); (case k__law_plain => k_is)
    (case a__law_clue => k_is); (case l__law_clue => k_is); (case c__law_clue => k_is); (case k__law_clue => k_is); (case a__law_holds => k_is); (case l__law_holds => k_is); (case c__law_holds => k_is); (case k__law_holds => k_is)
    (case a__law_left => k_is); (case l__law_left => k_is); (case c__law_left => k_is); (case k__law_left => k_is); (case a__law_word => k_is); (case l__law_word => k_is); (case c__law_word => k_is); (case k__law_word => k_is)
    (case a__law_right => k_is); (case l__law_right => k_is); (case c__law_right => k_is); (case k__law_right => k_is); (case a_law => k_is); (case l_law => k_is); (case c_law => k_is); (case k_law => k_is)
    (case z_abs => k_is); (case z_all => k_is); (case z_any => k_is); (case z_bool => k_is); (case z_dict => k_is); (case z_int => k_is); (case z_isinstance => k_is); (case z_len => k_is)
    (case z_list => k_is); (case z_max => k_is); (case z_min => k_is); (case z_range => k_is); (case z_repr => k_is); (case z_sorted => k_is); (case z_str => k_is); (case z_sum => k_is)
    (case z_tuple => k_is); (case z_zip => k_is)

