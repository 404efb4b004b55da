import PyProof.Rows.All
import Wide.All
import OpenK.AllK
import Wide.FinOn
import HandS.ForMost
import HandS.ForExc
import HandS.Evl
import HandS.Walk
import HandS.Flow
import HandS.Style
import HandS.Wide
import HandS.IsInst
import HandS.Conv
import HandS.TupAny
import HandS.SortInts
import HandS.SortRule
import HandS.SortKw
import HandS.SetFor
import HandS.Steps
import HandS.Strs
import KE.KRevSl
import PySem.Challenge.RW_boatpairs_k05_answers_by_hand
set_option Elab.async false
set_option linter.all false
set_option maxRecDepth 100000
set_option maxHeartbeats 4000000
/-! A layer of judgements over data: what an expression is worth and what a statement leads to, told by data in slots. -/
namespace Ly
open PySem L2
open Evl (Ex)

/-- what a value stands for -/
inductive D where
  | non | bl (b : Bool) | int (i : Int) | str (x : Str) | dct
  | lst (ds : List D) | tup (ds : List D)
  | hvy (C : Addr) (p : D) | bts (C : Addr) (b m : D)

mutual
inductive Da (H : Hp) : V → D → Prop
  | non : Da H .non .non
  | bl (b : Bool) : Da H (.bl b) (.bl b)
  | int (i : Int) : Da H (.int i) (.int i)
  | str (x : Str) : Da H (.str x) (.str x)
  | dct {a : Addr} : H a = some (.dK []) → Da H (.ref a) .dct
  | lst {a : Addr} {xs : List V} {ds : List D} : H a = some (.lst xs) → DaAll H xs ds → Da H (.ref a) (.lst ds)
  | tup {a : Addr} {xs : List V} {ds : List D} : H a = some (.tup xs) → DaAll H xs ds → Da H (.ref a) (.tup ds)
  | hvy {a C dx : Addr} {x : V} {p : D} : H a = some (.ins C dx [("person", x)]) → Da H x p → Da H (.ref a) (.hvy C p)
  | bts {a C dx : Addr} {x y : V} {b m : D} : H a = some (.ins C dx [("boats", x), ("mark", y)]) → Da H x b → Da H y m → Da H (.ref a) (.bts C b m)
inductive DaAll (H : Hp) : List V → List D → Prop
  | nil : DaAll H [] []
  | cons {v : V} {vs : List V} {d : D} {ds : List D} : Da H v d → DaAll H vs ds → DaAll H (v :: vs) (d :: ds)
end

section
variable {H H' : Hp}
mutual
theorem Da.mono (e : Ex H H') : ∀ {v : V} {d : D}, Da H v d → Da H' v d
  | _, _, .non => .non
  | _, _, .bl b => .bl b
  | _, _, .int i => .int i
  | _, _, .str x => .str x
  | _, _, .dct h => .dct (e _ _ h)
  | _, _, .lst h q => .lst (e _ _ h) (DaAll.mono e q)
  | _, _, .tup h q => .tup (e _ _ h) (DaAll.mono e q)
  | _, _, .hvy h q => .hvy (e _ _ h) (Da.mono e q)
  | _, _, .bts h q r => .bts (e _ _ h) (Da.mono e q) (Da.mono e r)
theorem DaAll.mono (e : Ex H H') : ∀ {vs : List V} {ds : List D}, DaAll H vs ds → DaAll H' vs ds
  | _, _, .nil => .nil
  | _, _, .cons h q => .cons (Da.mono e h) (DaAll.mono e q)
end
theorem DaAll.len : ∀ {vs : List V} {ds : List D}, DaAll H vs ds → vs.length = ds.length
  | _, _, .nil => rfl
  | _, _, .cons _ q => congrArg (· + 1) q.len
theorem DaAll.get : ∀ {vs : List V} {ds : List D} {i : Nat} {d : D}, DaAll H vs ds → ds[i]? = some d → ∃ v, vs[i]? = some v ∧ Da H v d
  | _, _, i, _, .nil, h => by simp at h
  | _, _, 0, _, .cons h _, e => by
    simp at e
    subst e
    exact ⟨_, rfl, h⟩
  | _, _, i + 1, d, .cons _ q, e => by
    obtain ⟨v, h1, h2⟩ := DaAll.get (i := i) (d := d) q (by simpa using e)
    exact ⟨v, by simpa using h1, h2⟩
theorem DaAll.getV : ∀ {vs : List V} {ds : List D} {i : Nat} {v : V}, DaAll H vs ds → vs[i]? = some v → ∃ d, ds[i]? = some d ∧ Da H v d
  | _, _, i, _, .nil, h => by simp at h
  | _, _, 0, _, .cons h _, e => by
    simp at e
    subst e
    exact ⟨_, rfl, h⟩
  | _, _, i + 1, v, .cons _ q, e => by
    obtain ⟨d, h1, h2⟩ := DaAll.getV (i := i) (v := v) q (by simpa using e)
    exact ⟨d, by simpa using h1, h2⟩
theorem DaAll.app : ∀ {vs ws : List V} {ds es : List D}, DaAll H vs ds → DaAll H ws es → DaAll H (vs ++ ws) (ds ++ es)
  | _, _, _, _, .nil, r => r
  | _, _, _, _, .cons h q, r => .cons h (DaAll.app q r)
theorem DaAll.take (n : Nat) : ∀ {vs : List V} {ds : List D}, DaAll H vs ds → DaAll H (vs.take n) (ds.take n)
  | _, _, .nil => by
    rw [List.take_nil, List.take_nil]
    exact .nil
  | _, _, .cons h q => by
    cases n with
    | zero => exact .nil
    | succ k => exact .cons h (DaAll.take k q)
theorem DaAll.drop (n : Nat) : ∀ {vs : List V} {ds : List D}, DaAll H vs ds → DaAll H (vs.drop n) (ds.drop n)
  | _, _, .nil => by
    rw [List.drop_nil, List.drop_nil]
    exact .nil
  | _, _, .cons h q => by
    cases n with
    | zero => exact .cons h q
    | succ k => exact DaAll.drop k q
theorem DaAll.rev : ∀ {vs : List V} {ds : List D}, DaAll H vs ds → DaAll H vs.reverse ds.reverse
  | _, _, .nil => .nil
  | _, _, .cons h q => by
    rw [List.reverse_cons, List.reverse_cons]
    exact DaAll.app q.rev (.cons h .nil)
theorem DaAll.set {v : V} {d : D} (r : Da H v d) : ∀ {vs : List V} {ds : List D} (i : Nat), DaAll H vs ds → DaAll H (vs.set i v) (ds.set i d)
  | _, _, _, .nil => .nil
  | _, _, 0, .cons _ q => .cons r q
  | _, _, i + 1, .cons h q => .cons h (DaAll.set r i q)
theorem DaAll.flat {α : Type} {f : α → V} {g : α → D} (h : ∀ x, Da H (f x) (g x)) : ∀ xs : List α, DaAll H (xs.map f) (xs.map g)
  | [] => .nil
  | x :: r => .cons (h x) (DaAll.flat h r)
theorem da_int {v : V} {n : Int} (h : Da H v (.int n)) : v = .int n := by
  cases h
  rfl
theorem da_bl {v : V} {b : Bool} (h : Da H v (.bl b)) : v = .bl b := by
  cases h
  rfl
end
/-- a list of whole numbers; a tuple of such -/
def il (ns : List Int) : D := .lst (ns.map D.int)
def itup (ns : List Int) : D := .tup (ns.map D.int)
/-- boats -/
def btl (bs : List (List Int)) : D := .lst (bs.map itup)
theorem all_il {H : Hp} : ∀ {ns : List Int} {vs : List V}, DaAll H vs (ns.map D.int) → vs = ns.map V.int
  | [], _, h => by
    cases h
    rfl
  | n :: r, _, h => by
    cases h with
    | cons a q => rw [da_int a, all_il q, List.map_cons]
theorem il_all {H : Hp} (ns : List Int) : DaAll H (ns.map V.int) (ns.map D.int) := DaAll.flat (fun n => Da.int n) ns
theorem all_bls {H : Hp} : ∀ {bs : List Bool} {vs : List V}, DaAll H vs (bs.map D.bl) → vs = bs.map V.bl
  | [], _, h => by
    cases h
    rfl
  | n :: r, _, h => by
    cases h with
    | cons a q => rw [da_bl a, all_bls q, List.map_cons]
theorem da_il {H : Hp} {v : V} {ns : List Int} (h : Da H v (il ns)) : ∃ a, v = .ref a ∧ H a = some (.lst (ns.map V.int)) := by
  unfold il at h
  cases h with
  | lst e q => exact ⟨_, rfl, by rw [e, all_il q]⟩
theorem da_itup {H : Hp} {v : V} {ns : List Int} (h : Da H v (itup ns)) : ∃ a, v = .ref a ∧ H a = some (.tup (ns.map V.int)) := by
  unfold itup at h
  cases h with
  | tup e q => exact ⟨_, rfl, by rw [e, all_il q]⟩
theorem il_da {H : Hp} {a : Addr} {ns : List Int} (h : H a = some (.lst (ns.map V.int))) : Da H (.ref a) (il ns) := .lst h (il_all ns)
theorem itup_da {H : Hp} {a : Addr} {ns : List Int} (h : H a = some (.tup (ns.map V.int))) : Da H (.ref a) (itup ns) := .tup h (il_all ns)

/-! ### what is hidden -/
abbrev Hd := Addr → Prop
open Classical in
noncomputable def Hs (S : Hd) (H : Hp) : Hp := fun a => if S a then none else H a
theorem hs_in {S : Hd} {H : Hp} {a : Addr} {o : HO} (n : ¬ S a) (h : H a = some o) : Hs S H a = some o := by
  unfold Hs
  rw [if_neg n]
  exact h
theorem hs_out {S : Hd} {H : Hp} {a : Addr} {o : HO} (h : Hs S H a = some o) : H a = some o ∧ ¬ S a := by
  unfold Hs at h
  by_cases n : S a
  · rw [if_pos n] at h
    cases h
  · rw [if_neg n] at h
    exact ⟨h, n⟩
theorem hs_ex {S : Hd} {H : Hp} : Ex (Hs S H) H := fun _ _ h => (hs_out h).1
theorem hs_mono {S : Hd} {H H' : Hp} (e : Ex H H') : Ex (Hs S H) (Hs S H') := fun _ _ h => hs_in (hs_out h).2 (e _ _ (hs_out h).1)
theorem hs_sub {S S' : Hd} {H : Hp} (e : ∀ a, S a → S' a) : Ex (Hs S' H) (Hs S H) := fun _ _ h => hs_in (fun n => (hs_out h).2 (e _ n)) (hs_out h).1
/-- a change of hidden things is not seen -/
theorem hs_upd {S : Hd} {H : Hp} {l : Addr} {o : HO} (n : S l) : Hs S (upd H l o) = Hs S H := by
  funext a
  unfold Hs
  by_cases e : S a
  · rw [if_pos e, if_pos e]
  · rw [if_neg e, if_neg e, upd_ne (fun z => e (by rw [z]; exact n))]
def hide (p : Addr) (S : Hd) : Hd := fun a => a = p ∨ S a
theorem hs_new {S : Hd} {H : Hp} {p : Addr} {o : HO} (n : ¬ S p) (h : H p = none) : Ex (Hs S H) (Hs S (upd H p o)) := hs_mono (Ex.new h)
theorem hs_hide_new {S : Hd} {H : Hp} {p : Addr} {o : HO} (h : H p = none) : Ex (Hs S H) (Hs (hide p S) (upd H p o)) := fun a u e => by
  have q := hs_out e
  have ne : a ≠ p := fun z => by
    rw [z, h] at q
    cases q.1
  exact hs_in (fun z => z.elim ne q.2) (by rw [upd_ne ne]; exact q.1)

/-! ### slots -/
inductive Slo where
  | v (d : D) | s (ns : List Int)
inductive Ow where
  | lst (ds : List D) | ob (C : Addr) (ds : List D) (m : Int)
/-- what is known of the slots; one slot may own what it holds -/
structure Gm where
  g : List (Option Slo)
  w : Option (Nat × Ow) := none
structure Bs where
  He : Hp
  Vw : Hp
  S0 : Hd
def Own (B : Bs) (S : Hd) (σ : St) (H : Hp) : Nat × Ow → Prop
  | (i, .lst ds) => ∃ a xs, σ[i]? = some (some (.ref a)) ∧ S a ∧ ¬ B.S0 a ∧ B.He a = none ∧ H a = some (.lst xs) ∧ DaAll (Hs S H) xs ds
  | (i, .ob C ds m) => ∃ a l dx xs, σ[i]? = some (some (.ref a)) ∧ S a ∧ ¬ B.S0 a ∧ B.He a = none ∧ S l ∧ ¬ B.S0 l ∧ B.He l = none ∧ H a = some (.ins C dx [("boats", .ref l), ("mark", .int m)]) ∧ H l = some (.lst xs) ∧ DaAll (Hs S H) xs ds
structure Ok (K : PySem.W.Frag) (B : Bs) (S : Hd) (σ : St) (Γ : Gm) (H : Hp) : Prop where
  inn : ∀ a, S a → ∃ o, H a = some o
  sub : ∀ a, B.S0 a → S a
  ent : Ex B.He H
  vis : Ex B.Vw (Hs S H)
  len : σ.length = Γ.g.length
  val : ∀ (i : Nat) (d : D), Γ.g[i]? = some (some (Slo.v d)) → ∃ v, σ[i]? = some (some v) ∧ Da (Hs S H) v d
  scr : ∀ (i : Nat) (ns : List Int), Γ.g[i]? = some (some (Slo.s ns)) → ∃ a, σ[i]? = some (some (.ref a)) ∧ SqL K B.He a (ns.map V.int)
  own : ∀ (x : Nat × Ow), Γ.w = some x → Own B S σ H x
section
variable {K : PySem.W.Frag} {B : Bs} {S : Hd} {σ : St} {Γ : Gm} {H H' : Hp}
theorem Own.mono (e : Ex H H') : ∀ {x : Nat × Ow}, Own B S σ H x → Own B S σ H' x
  | (_, .lst _), ⟨a, xs, h1, h2, h3, h4, h5, h6⟩ => ⟨a, xs, h1, h2, h3, h4, e _ _ h5, h6.mono (hs_mono e)⟩
  | (_, .ob _ _ _), ⟨a, l, dx, xs, h1, h2, h3, h4, h5, h6, h7, h8, h9, h10⟩ => ⟨a, l, dx, xs, h1, h2, h3, h4, h5, h6, h7, e _ _ h8, e _ _ h9, h10.mono (hs_mono e)⟩
theorem Ok.mono (k : Ok K B S σ Γ H) (e : Ex H H') : Ok K B S σ Γ H' where
  inn := fun a h => by
    obtain ⟨o, q⟩ := k.inn a h
    exact ⟨o, e _ _ q⟩
  sub := k.sub
  ent := k.ent.trans e
  vis := k.vis.trans (hs_mono e)
  len := k.len
  val := fun i d h => by
    obtain ⟨v, h1, h2⟩ := k.val i d h
    exact ⟨v, h1, h2.mono (hs_mono e)⟩
  scr := k.scr
  own := fun x h => (k.own x h).mono e
theorem Ok.free (k : Ok K B S σ Γ H) {p : Addr} (h : H p = none) : ¬ S p := fun n => by
  obtain ⟨o, q⟩ := k.inn p n
  rw [h] at q
  cases q
theorem get_set {α : Type} {l : List (Option α)} {i j : Nat} {x y : Option α} (h : (l.set i x)[j]? = some y) : (j = i ∧ i < l.length ∧ y = x) ∨ (j ≠ i ∧ l[j]? = some y) := by
  by_cases e : i = j
  · subst e
    by_cases hl : i < l.length
    · rw [List.getElem?_set_self hl] at h
      exact .inl ⟨rfl, hl, (Option.some.inj h).symm⟩
    · rw [List.getElem?_eq_none (by rw [List.length_set]; omega)] at h
      cases h
  · rw [List.getElem?_set_ne e] at h
    exact .inr ⟨fun z => e z.symm, h⟩
theorem Own.set {i : Nat} {x : Option V} : ∀ {y : Nat × Ow}, y.1 ≠ i → Own B S σ H y → Own B S (σ.set i x) H y
  | (_, .lst _), n, ⟨a, xs, h1, h⟩ => ⟨a, xs, by rw [List.getElem?_set_ne (Ne.symm n)]; exact h1, h⟩
  | (_, .ob _ _ _), n, ⟨a, l, dx, xs, h1, h⟩ => ⟨a, l, dx, xs, by rw [List.getElem?_set_ne (Ne.symm n)]; exact h1, h⟩
theorem Ok.set {i : Nat} {v : V} {d : D} (k : Ok K B S σ Γ H) (h : Da (Hs S H) v d) (hw : ∀ x, Γ.w = some x → x.1 ≠ i) : Ok K B S (σ.set i (some v)) ⟨Γ.g.set i (some (Slo.v d)), Γ.w⟩ H where
  inn := k.inn
  sub := k.sub
  ent := k.ent
  vis := k.vis
  len := by
    show (σ.set i _).length = (Γ.g.set i _).length
    rw [List.length_set, List.length_set, k.len]
  val := fun j e hj => by
    rcases get_set hj with ⟨rfl, hl, e1⟩ | ⟨n, hj⟩
    · cases e1
      exact ⟨v, List.getElem?_set_self (by rw [k.len]; exact hl), h⟩
    · obtain ⟨u, h1, h2⟩ := k.val j e hj
      exact ⟨u, by rw [List.getElem?_set_ne (Ne.symm n)]; exact h1, h2⟩
  scr := fun j ns hj => by
    rcases get_set hj with ⟨rfl, hl, e1⟩ | ⟨n, hj⟩
    · cases e1
    · obtain ⟨u, h1, h2⟩ := k.scr j ns hj
      exact ⟨u, by rw [List.getElem?_set_ne (Ne.symm n)]; exact h1, h2⟩
  own := fun x hx => (k.own x hx).set (hw x hx)
/-- a slot is forgotten -/
theorem Ok.drop {i : Nat} (k : Ok K B S σ Γ H) (hw : ∀ x, Γ.w = some x → x.1 ≠ i) : Ok K B S (σ.set i none) ⟨Γ.g.set i none, Γ.w⟩ H where
  inn := k.inn
  sub := k.sub
  ent := k.ent
  vis := k.vis
  len := by
    show (σ.set i _).length = (Γ.g.set i _).length
    rw [List.length_set, List.length_set, k.len]
  val := fun j e hj => by
    rcases get_set hj with ⟨rfl, hl, e1⟩ | ⟨n, hj⟩
    · cases e1
    · obtain ⟨u, h1, h2⟩ := k.val j e hj
      exact ⟨u, by rw [List.getElem?_set_ne (Ne.symm n)]; exact h1, h2⟩
  scr := fun j ns hj => by
    rcases get_set hj with ⟨rfl, hl, e1⟩ | ⟨n, hj⟩
    · cases e1
    · obtain ⟨u, h1, h2⟩ := k.scr j ns hj
      exact ⟨u, by rw [List.getElem?_set_ne (Ne.symm n)]; exact h1, h2⟩
  own := fun x hx => (k.own x hx).set (hw x hx)
/-- a new thing hidden -/
theorem Ok.hide {p : Addr} {o : HO} (k : Ok K B S σ Γ H) (h : H p = none) : Ok K B (hide p S) σ Γ (upd H p o) where
  inn := fun a q => by
    rcases q with rfl | q
    · exact ⟨o, upd_same⟩
    · obtain ⟨u, z⟩ := k.inn a q
      exact ⟨u, by rw [upd_ne (ne_of_none z h)]; exact z⟩
  sub := fun a q => .inr (k.sub a q)
  ent := k.ent.trans (Ex.new h)
  vis := k.vis.trans (hs_hide_new h)
  len := k.len
  val := fun i d q => by
    obtain ⟨v, h1, h2⟩ := k.val i d q
    exact ⟨v, h1, h2.mono (hs_hide_new h)⟩
  scr := k.scr
  own := fun x q => by
    have z := k.own x q
    obtain ⟨i, y⟩ := x
    cases y with
    | lst ds =>
      obtain ⟨a, xs, h1, h2, h3, h4, h5, h6⟩ := z
      exact ⟨a, xs, h1, .inr h2, h3, h4, by rw [upd_ne (ne_of_none h5 h)]; exact h5, h6.mono (hs_hide_new h)⟩
    | ob C ds m =>
      obtain ⟨a, l, dx, xs, h1, h2, h3, h4, h5, h6, h7, h8, h9, h10⟩ := z
      exact ⟨a, l, dx, xs, h1, .inr h2, h3, h4, .inr h5, h6, h7, by rw [upd_ne (ne_of_none h8 h)]; exact h8, by rw [upd_ne (ne_of_none h9 h)]; exact h9, h10.mono (hs_hide_new h)⟩
/-- the view moved on -/
theorem Ok.view (k : Ok K B S σ Γ H) : Ok K { B with Vw := Hs S H } S σ Γ H where
  inn := k.inn
  sub := k.sub
  ent := k.ent
  vis := Ex.refl _
  len := k.len
  val := k.val
  scr := k.scr
  own := fun x q => by
    have z := k.own x q
    obtain ⟨i, y⟩ := x
    cases y with
    | lst ds => exact z
    | ob C ds m => exact z
theorem Ok.viewB {U : Hp} (k : Ok K { B with Vw := U } S σ Γ H) (e : Ex B.Vw U) : Ok K B S σ Γ H where
  inn := k.inn
  sub := k.sub
  ent := k.ent
  vis := e.trans k.vis
  len := k.len
  val := k.val
  scr := k.scr
  own := fun x q => by
    have z := k.own x q
    obtain ⟨i, y⟩ := x
    cases y with
    | lst ds => exact z
    | ob C ds m => exact z
/-- nothing owned any more -/
theorem Ok.loose (k : Ok K B S σ Γ H) : Ok K B S σ ⟨Γ.g, none⟩ H :=
  ⟨k.inn, k.sub, k.ent, k.vis, k.len, k.val, k.scr, fun _ h => nomatch h⟩
end

/-! ### judgements -/
section
variable (K : PySem.W.Frag)
/-- the expression is worth something of which P -/
def Eg (te : TE) (Γ : Gm) (P : D → Prop) : Prop := ∀ B S σ H, Ok K B S σ Γ H → ∀ Q : VK, (∀ v d H1, P d → Ex H H1 → Da (Hs S H1) v d → Q v H1) → te σ H Q
/-- the expression is worth d -/
def Ed (te : TE) (Γ : Gm) (d : D) : Prop := ∀ B S σ H, Ok K B S σ Γ H → ∀ Q : VK, (∀ v H1, Ex H H1 → Da (Hs S H1) v d → Q v H1) → te σ H Q
/-- it is a new list -/
def En (te : TE) (Γ : Gm) (ds : List D) : Prop := ∀ B S σ H, Ok K B S σ Γ H → ∀ Q : VK,
  (∀ p xs H1, H p = none → Ex H H1 → H1 p = some (.lst xs) → DaAll (Hs (hide p S) H1) xs ds → Q (.ref p) H1) → te σ H Q
def Et (tt : TT) (Γ : Gm) (b : Bool) : Prop := ∀ B S σ H, Ok K B S σ Γ H → ∀ Q : Bool → Hp → Prop, (∀ H1, Ex H H1 → Q b H1) → tt σ H Q
def Ea (ta : TA) (Γ : Gm) (ds : List D) : Prop := ∀ B S σ H, Ok K B S σ Γ H → ∀ Q : List V → Hp → Prop, (∀ vs H1, Ex H H1 → DaAll (Hs S H1) vs ds → Q vs H1) → ta σ H Q
def Eo (to : TO) (Γ : Gm) (o : Option Int) : Prop := ∀ B S σ H, Ok K B S σ Γ H → ∀ Q : Option Int → Hp → Prop, (∀ H1, Ex H H1 → Q o H1) → to σ H Q
end
section
variable {K : PySem.W.Frag} {Γ : Gm} {te ta tb tc : TE} {tt tu : TT} {d x y z : D} {P P' : D → Prop}
theorem Ed.toEg (h : Ed K te Γ d) : Eg K te Γ (· = d) := fun B S σ H k Q q => h B S σ H k Q fun v H1 e r => q v d H1 rfl e r
theorem Eg.toEd (h : Eg K te Γ (· = d)) : Ed K te Γ d := fun B S σ H k Q q => h B S σ H k Q fun v u H1 e1 e r => q v H1 e (e1 ▸ r)
theorem Eg.imp (h : Eg K te Γ P) (i : ∀ d, P d → P' d) : Eg K te Γ P' := fun B S σ H k Q q => h B S σ H k Q fun v u H1 e1 e r => q v u H1 (i u e1) e r
theorem Ed.is (h : Ed K te Γ x) (e : x = y) : Ed K te Γ y := e ▸ h
theorem Et.is {a b : Bool} (h : Et K tt Γ a) (e : a = b) : Et K tt Γ b := e ▸ h
theorem En.is {xs ys : List D} (h : En K te Γ xs) (e : xs = ys) : En K te Γ ys := e ▸ h
theorem En.toEd {ds : List D} (h : En K te Γ ds) : Ed K te Γ (.lst ds) := fun B S σ H k Q q =>
  h B S σ H k Q fun p xs H1 hp e h1 r => q (.ref p) H1 e (.lst (hs_in (k.free hp) h1) (r.mono (hs_sub fun _ z => .inr z)))

/-! ### expressions -/
theorem ed_var {i : Nat} (h : Γ.g[i]? = some (some (Slo.v d))) : Ed K (tVar i) Γ d := fun B S σ H k Q q => by
  obtain ⟨v, h1, h2⟩ := k.val i d h
  exact ⟨v, h1, q v H (Ex.refl H) h2⟩
theorem ed_int {n : Int} : Ed K (tC (.int n)) Γ (.int n) := fun B S σ H k Q q => q _ H (Ex.refl H) (.int n)
theorem ed_bl {b : Bool} : Ed K (tC (.bl b)) Γ (.bl b) := fun B S σ H k Q q => q _ H (Ex.refl H) (.bl b)
theorem ed_non : Ed K (tC .non) Γ .non := fun B S σ H k Q q => q _ H (Ex.refl H) .non
theorem ed_str {s : Str} : Ed K (tC (.str s)) Γ (.str s) := fun B S σ H k Q q => q _ H (Ex.refl H) (.str s)
/-- two whole numbers -/
theorem ed_II {f : Int → Int → Int} {i j : Int} (ha : Ed K ta Γ (.int i)) (hb : Ed K tb Γ (.int j)) : Ed K (tOp (rI0 fun i j => .int (f i j)) ta tb) Γ (.int (f i j)) := fun B S σ H k Q q =>
  ha B S σ H k _ fun v H1 e1 d1 => hb B S σ H1 (k.mono e1) _ fun u H2 e2 d2 => ⟨i, j, da_int d1, da_int d2, q _ H2 (e1.trans e2) (.int _)⟩
theorem ed_IC {C : Int → Int → Prop} {f : Int → Int → Int} {i j : Int} (ha : Ed K ta Γ (.int i)) (hb : Ed K tb Γ (.int j)) (hc : C i j) : Ed K (tOp (rI C fun i j => .int (f i j)) ta tb) Γ (.int (f i j)) := fun B S σ H k Q q =>
  ha B S σ H k _ fun v H1 e1 d1 => hb B S σ H1 (k.mono e1) _ fun u H2 e2 d2 => ⟨i, j, da_int d1, da_int d2, hc, q _ H2 (e1.trans e2) (.int _)⟩
theorem ed_IB {f : Int → Int → Bool} {i j : Int} (ha : Ed K ta Γ (.int i)) (hb : Ed K tb Γ (.int j)) : Ed K (tOp (rI0 fun i j => .bl (f i j)) ta tb) Γ (.bl (f i j)) := fun B S σ H k Q q =>
  ha B S σ H k _ fun v H1 e1 d1 => hb B S σ H1 (k.mono e1) _ fun u H2 e2 d2 => ⟨i, j, da_int d1, da_int d2, q _ H2 (e1.trans e2) (.bl _)⟩
theorem ed_neg {i : Int} (ha : Ed K ta Γ (.int i)) : Ed K (tUn (rU fun i => .int (-i)) ta) Γ (.int (-i)) := fun B S σ H k Q q =>
  ha B S σ H k _ fun v H1 e1 d1 => ⟨i, da_int d1, q _ H1 e1 (.int _)⟩
/-- a < b < c -/
theorem ed_chain {f f' : Int → Int → Bool} {i j l : Int} (ha : Ed K ta Γ (.int i)) (hb : Ed K tb Γ (.int j)) (hc : Ed K tc Γ (.int l)) :
    Ed K (tChain (rI0 fun i j => .bl (f i j)) (rI0 fun i j => .bl (f' i j)) ta tb tc) Γ (.bl (f i j && f' j l)) := fun B S σ H k Q q =>
  ha B S σ H k _ fun v H1 e1 d1 => hb B S σ H1 (k.mono e1) _ fun u H2 e2 d2 => ⟨i, j, da_int d1, da_int d2, f i j, rfl, by
    cases e : f i j with
    | true =>
      rw [if_pos rfl]
      refine hc B S σ H2 (k.mono (e1.trans e2)) _ fun w H3 e3 d3 => ⟨j, l, da_int d2, da_int d3, ?_⟩
      have z := q (.bl (f' j l)) H3 ((e1.trans e2).trans e3)
      rw [e, Bool.true_and] at z
      exact z (.bl _)
    | false =>
      rw [if_neg Bool.false_ne_true]
      have z := q (.bl false) H2 (e1.trans e2)
      rw [e, Bool.false_and] at z
      exact z (.bl _)⟩
theorem ed_and {a b : Bool} (ha : Ed K ta Γ (.bl a)) (hb : a = true → Ed K tb Γ (.bl b)) : Ed K (tAndV ta tb) Γ (.bl (a && b)) := fun B S σ H k Q q =>
  ha B S σ H k _ fun v H1 e1 d1 => ⟨a, da_bl d1, by
    cases a with
    | true => exact hb rfl B S σ H1 (k.mono e1) _ fun u H2 e2 d2 => q u H2 (e1.trans e2) d2
    | false => exact q _ H1 e1 (.bl _)⟩
theorem ed_or {a b : Bool} (ha : Ed K ta Γ (.bl a)) (hb : a = false → Ed K tb Γ (.bl b)) : Ed K (tOrV ta tb) Γ (.bl (a || b)) := fun B S σ H k Q q =>
  ha B S σ H k _ fun v H1 e1 d1 => ⟨a, da_bl d1, by
    cases a with
    | true => exact q _ H1 e1 (.bl _)
    | false => exact hb rfl B S σ H1 (k.mono e1) _ fun u H2 e2 d2 => q u H2 (e1.trans e2) d2⟩
theorem ed_not {a : Bool} (ha : Ed K ta Γ (.bl a)) : Ed K (tNotV ta) Γ (.bl (!a)) := fun B S σ H k Q q =>
  ha B S σ H k _ fun v H1 e1 d1 => ⟨a, da_bl d1, q _ H1 e1 (.bl _)⟩
theorem ed_if {b : Bool} (h : Et K tt Γ b) (h1 : b = true → Ed K ta Γ x) (h2 : b = false → Ed K tb Γ x) : Ed K (tIf tt ta tb) Γ x := fun B S σ H k Q q =>
  h B S σ H k _ fun H1 e1 => by
    cases b with
    | true => exact h1 rfl B S σ H1 (k.mono e1) _ fun u H2 e2 d2 => q u H2 (e1.trans e2) d2
    | false => exact h2 rfl B S σ H1 (k.mono e1) _ fun u H2 e2 d2 => q u H2 (e1.trans e2) d2
/-! ### tests -/
theorem et_B {b : Bool} (h : Ed K te Γ (.bl b)) : Et K (tB te) Γ b := fun B S σ H k Q q => h B S σ H k _ fun v H1 e1 d1 => ⟨b, da_bl d1, q H1 e1⟩
theorem et_T {b : Bool} (h : Ed K te Γ (.bl b)) : Et K (tTest te) Γ b := fun B S σ H k Q q => h B S σ H k _ fun v H1 e1 d1 => ⟨b, da_bl d1, q H1 e1⟩
theorem et_and {a b : Bool} (h1 : Et K tt Γ a) (h2 : a = true → Et K tu Γ b) : Et K (tAnd tt tu) Γ (a && b) := fun B S σ H k Q q => h1 B S σ H k _ fun H1 e1 => by
  cases a with
  | true => exact h2 rfl B S σ H1 (k.mono e1) _ fun H2 e2 => q H2 (e1.trans e2)
  | false => exact q H1 e1
theorem et_or {a b : Bool} (h1 : Et K tt Γ a) (h2 : a = false → Et K tu Γ b) : Et K (tOr tt tu) Γ (a || b) := fun B S σ H k Q q => h1 B S σ H k _ fun H1 e1 => by
  cases a with
  | true => exact q H1 e1
  | false => exact h2 rfl B S σ H1 (k.mono e1) _ fun H2 e2 => q H2 (e1.trans e2)
theorem et_not {a : Bool} (h : Et K tt Γ a) : Et K (tNot tt) Γ (!a) := fun B S σ H k Q q => h B S σ H k _ fun H1 e1 => q H1 e1
/-! ### arguments, displays -/
theorem ea_nil : Ea K tNil Γ [] := fun B S σ H k Q q => q [] H (Ex.refl H) .nil
theorem ea_cons {tr : TA} {ds : List D} (h : Ed K ta Γ d) (hr : Ea K tr Γ ds) : Ea K (tCons ta tr) Γ (d :: ds) := fun B S σ H k Q q =>
  h B S σ H k _ fun v H1 e1 d1 => hr B S σ H1 (k.mono e1) _ fun vs H2 e2 d2 => q (v :: vs) H2 (e1.trans e2) (.cons (d1.mono (hs_mono e2)) d2)
theorem en_lst {tr : TA} {ds : List D} (h : Ea K tr Γ ds) (hl : ds.length ≤ 1000) : En K (tLst tr) Γ ds := fun B S σ H k Q q =>
  h B S σ H k _ fun vs H1 e1 d1 => ⟨by rw [d1.len]; exact Nat.le_of_lt (small1000 hl), fun p hp => q p vs _ (Evl.fresh_back e1 hp) (e1.trans (Ex.new hp)) upd_same (d1.mono (hs_hide_new hp))⟩
theorem ed_tup {tr : TA} {ds : List D} (h : Ea K tr Γ ds) (hl : ds.length ≤ 1000) : Ed K (tTup tr) Γ (.tup ds) := fun B S σ H k Q q =>
  h B S σ H k _ fun vs H1 e1 d1 => ⟨by rw [d1.len]; exact Nat.le_of_lt (small1000 hl), fun p hp => q (.ref p) _ (e1.trans (Ex.new hp)) (.tup (hs_in ((k.mono e1).free hp) upd_same) (d1.mono (hs_mono (Ex.new hp))))⟩
end
end Ly

/-! The layer, second part: sequences, built-ins, comprehensions, statements, calls. -/
namespace Ly
open PySem L2
open Evl (Ex)

section
variable {K : PySem.W.Frag} {Γ : Gm} {te ta tb tc : TE} {tt tu : TT} {d x y z : D} {P P' : D → Prop}

/-! ### sequences -/
theorem sql {H : Hp} {S : Hd} {a : Addr} {xs : List V} (h : Hs S H a = some (.lst xs)) : SqL K H a xs := .inl (.inl (hs_out h).1)
theorem sqt {H : Hp} {S : Hd} {a : Addr} {xs : List V} (h : Hs S H a = some (.tup xs)) : SqT K H a xs := .inl (.inl (hs_out h).1)
theorem cr_len {X : Cx} : CallR X (.builtin "len") (Evl.rLenS X.K) := call_len_seq
theorem cr_list {X : Cx} : CallR X (.type "list") (Evl.rListS X.K) := call_list_of
theorem ed_lenL {ds : List D} (h : Ed K ta Γ (.lst ds)) : Ed K (tCB (Evl.rLenS K) (tCons ta tNil)) Γ (.int (ds.length : Int)) := fun B S σ H k Q q =>
  h B S σ H k _ fun v H1 e1 d1 => by
    cases d1 with
    | lst h1 r => exact ⟨_, _, rfl, .inl (sql h1), q _ H1 e1 (by rw [r.len]; exact .int _)⟩
theorem ed_lenT {ds : List D} (h : Ed K ta Γ (.tup ds)) : Ed K (tCB (Evl.rLenS K) (tCons ta tNil)) Γ (.int (ds.length : Int)) := fun B S σ H k Q q =>
  h B S σ H k _ fun v H1 e1 d1 => by
    cases d1 with
    | tup h1 r => exact ⟨_, _, rfl, .inr (sqt h1), q _ H1 e1 (by rw [r.len]; exact .int _)⟩
theorem ed_lenI {ns : List Int} (h : Ed K ta Γ (il ns)) : Ed K (tCB (Evl.rLenS K) (tCons ta tNil)) Γ (.int (ns.length : Int)) := (ed_lenL h).is (by rw [List.length_map])
theorem ed_lenB {bs : List (List Int)} (h : Ed K ta Γ (btl bs)) : Ed K (tCB (Evl.rLenS K) (tCons ta tNil)) Γ (.int (bs.length : Int)) := (ed_lenL h).is (by rw [List.length_map])
theorem ed_lenIT {ns : List Int} (h : Ed K ta Γ (itup ns)) : Ed K (tCB (Evl.rLenS K) (tCons ta tNil)) Γ (.int (ns.length : Int)) := (ed_lenT h).is (by rw [List.length_map])
theorem atI_all {H : Hp} {vs : List V} {ds : List D} {i : Int} {d : D} (r : DaAll H vs ds) (h : atI ds i = some d) : ∃ v, atI vs i = some v ∧ Da H v d := by
  unfold atI at h ⊢
  rw [r.len]
  cases e : ixN ds.length i with
  | none =>
    rw [e] at h
    cases h
  | some j =>
    rw [e] at h
    exact r.get h
theorem ed_ixL {ds : List D} {i : Int} (ha : Ed K ta Γ (.lst ds)) (hb : Ed K tb Γ (.int i)) (h : atI ds i = some d) : Ed K (tOp (rIxL K) ta tb) Γ d := fun B S σ H k Q q =>
  ha B S σ H k _ fun v H1 e1 d1 => hb B S σ H1 (k.mono e1) _ fun u H2 e2 d2 => by
    have d1 := d1.mono (hs_mono e2)
    cases d1 with
    | lst h1 r =>
      obtain ⟨w, h2, h3⟩ := atI_all r h
      exact ⟨_, _, i, w, rfl, da_int d2, sql h1, h2, q w H2 (e1.trans e2) h3⟩
theorem ed_ixT {ds : List D} {i : Int} (ha : Ed K ta Γ (.tup ds)) (hb : Ed K tb Γ (.int i)) (h : atI ds i = some d) : Ed K (tOp (rIxT K) ta tb) Γ d := fun B S σ H k Q q =>
  ha B S σ H k _ fun v H1 e1 d1 => hb B S σ H1 (k.mono e1) _ fun u H2 e2 d2 => by
    have d1 := d1.mono (hs_mono e2)
    cases d1 with
    | tup h1 r =>
      obtain ⟨w, h2, h3⟩ := atI_all r h
      exact ⟨_, _, i, w, rfl, da_int d2, sqt h1, h2, q w H2 (e1.trans e2) h3⟩
theorem atI_map {α β : Type} (f : α → β) {xs : List α} {i : Int} {a : α} (h : atI xs i = some a) : atI (xs.map f) i = some (f a) := by
  unfold atI at h ⊢
  rw [List.length_map]
  cases e : ixN xs.length i with
  | none =>
    rw [e] at h
    cases h
  | some j =>
    rw [e] at h
    show (xs.map f)[j]? = some (f a)
    rw [List.getElem?_map, show xs[j]? = some a from h]
    rfl
theorem ed_ixI {ns : List Int} {i n : Int} (ha : Ed K ta Γ (il ns)) (hb : Ed K tb Γ (.int i)) (h : atI ns i = some n) : Ed K (tOp (rIxL K) ta tb) Γ (.int n) := ed_ixL ha hb (atI_map D.int h)
theorem ed_ixIT {ns : List Int} {i n : Int} (ha : Ed K ta Γ (itup ns)) (hb : Ed K tb Γ (.int i)) (h : atI ns i = some n) : Ed K (tOp (rIxT K) ta tb) Γ (.int n) := ed_ixT ha hb (atI_map D.int h)
theorem ed_ixB {bs : List (List Int)} {b : List Int} {i : Int} (ha : Ed K ta Γ (btl bs)) (hb : Ed K tb Γ (.int i)) (h : atI bs i = some b) : Ed K (tOp (rIxL K) ta tb) Γ (itup b) := ed_ixL ha hb (atI_map itup h)
def cutG {α : Type} (xs : List α) (lo hi : Option Int) : List α := (xs.drop (HT.sIx xs.length 0 lo)).take (HT.sIx xs.length xs.length hi - HT.sIx xs.length 0 lo)
theorem cutG_map {α β : Type} (f : α → β) (xs : List α) (lo hi : Option Int) : cutG (xs.map f) lo hi = (cutG xs lo hi).map f := by
  unfold cutG
  rw [List.length_map, ← List.map_drop, ← List.map_take]
theorem cut_all {H : Hp} {vs : List V} {ds : List D} (r : DaAll H vs ds) (lo hi : Option Int) : DaAll H (cutV vs lo hi) (cutG ds lo hi) := by
  unfold cutV cutG
  rw [r.len]
  exact (r.drop _).take _
theorem eo_none : Eo K tNoPart Γ none := fun B S σ H k Q q => q H (Ex.refl H)
theorem eo_some {i : Int} (h : Ed K te Γ (.int i)) : Eo K (tPart te) Γ (some i) := fun B S σ H k Q q => h B S σ H k _ fun v H1 e1 d1 => ⟨i, da_int d1, q H1 e1⟩
theorem en_sl {tl th : TO} {lo hi : Option Int} {ds : List D} (h : Ed K te Γ (.lst ds)) (h1 : Eo K tl Γ lo) (h2 : Eo K th Γ hi) : En K (tSl (rSlL K) te tl th) Γ (cutG ds lo hi) := fun B S σ H k Q q =>
  h B S σ H k _ fun v H1 e1 d1 => h1 B S σ H1 (k.mono e1) _ fun H2 e2 => h2 B S σ H2 (k.mono (e1.trans e2)) _ fun H3 e3 => by
    have e := (e1.trans e2).trans e3
    have d1 := d1.mono (hs_mono (e2.trans e3))
    cases d1 with
    | lst h1 r => exact ⟨_, _, rfl, sql h1, fun p hp => q p _ _ (Evl.fresh_back e hp) (e.trans (Ex.new hp)) upd_same ((cut_all r lo hi).mono (hs_hide_new hp))⟩
theorem en_slI {tl th : TO} {lo hi : Option Int} {ns : List Int} (h : Ed K te Γ (il ns)) (h1 : Eo K tl Γ lo) (h2 : Eo K th Γ hi) : En K (tSl (rSlL K) te tl th) Γ ((cutG ns lo hi).map D.int) := (en_sl h h1 h2).is (cutG_map _ _ _ _)
theorem en_slB {tl th : TO} {lo hi : Option Int} {bs : List (List Int)} (h : Ed K te Γ (btl bs)) (h1 : Eo K tl Γ lo) (h2 : Eo K th Γ hi) : En K (tSl (rSlL K) te tl th) Γ ((cutG bs lo hi).map itup) := (en_sl h h1 h2).is (cutG_map _ _ _ _)
/-- a slice of the script -/
theorem en_slS {i : Nat} {tl th : TO} {lo hi : Option Int} {ns : List Int} (h : Γ.g[i]? = some (some (Slo.s ns))) (h1 : Eo K tl Γ lo) (h2 : Eo K th Γ hi) : En K (tSl (rSlL K) (tVar i) tl th) Γ ((cutG ns lo hi).map D.int) := fun B S σ H k Q q => by
  obtain ⟨a, e, hs⟩ := k.scr i ns h
  refine ⟨.ref a, e, ?_⟩
  refine h1 B S σ H k _ fun H2 e2 => h2 B S σ H2 (k.mono e2) _ fun H3 e3 => ?_
  refine ⟨a, _, rfl, Same.seq (k.ent.trans (e2.trans e3)) hs, fun p hp => ?_⟩
  refine q p _ _ (Evl.fresh_back (e2.trans e3) hp) ((e2.trans e3).trans (Ex.new hp)) upd_same ?_
  have z : cutV (ns.map V.int) lo hi = (cutG ns lo hi).map V.int := cutG_map V.int ns lo hi
  rw [z]
  exact il_all _
theorem en_rev {ds : List D} (h : Ed K te Γ (.lst ds)) : En K (tRevL K te) Γ ds.reverse := fun B S σ H k Q q =>
  h B S σ H k _ fun v H1 e1 d1 => by
    cases d1 with
    | lst h1 r => exact ⟨_, _, rfl, sql h1, fun p hp => q p _ _ (Evl.fresh_back e1 hp) (e1.trans (Ex.new hp)) upd_same (r.rev.mono (hs_hide_new hp))⟩
theorem en_revI {ns : List Int} (h : Ed K te Γ (il ns)) : En K (tRevL K te) Γ (ns.reverse.map D.int) := (en_rev h).is (by rw [List.map_reverse])
theorem en_cat {xs ys : List D} (ha : Ed K ta Γ (.lst xs)) (hb : Ed K tb Γ (.lst ys)) (hz : xs.length + ys.length ≤ 1000) : En K (tOp rCat ta tb) Γ (xs ++ ys) := fun B S σ H k Q q =>
  ha B S σ H k _ fun v H1 e1 d1 => hb B S σ H1 (k.mono e1) _ fun u H2 e2 d2 => by
    have e := e1.trans e2
    have d1 := d1.mono (hs_mono e2)
    cases d1 with
    | lst h1 r1 =>
      cases d2 with
      | lst h2 r2 =>
        exact ⟨_, _, _, _, rfl, rfl, (hs_out h1).1, (hs_out h2).1, by rw [r1.len, r2.len]; exact Nat.le_of_lt (small1000 hz), fun p hp => q p _ _ (Evl.fresh_back e hp) (e.trans (Ex.new hp)) upd_same ((r1.app r2).mono (hs_hide_new hp))⟩
theorem en_catI {xs ys : List Int} (ha : Ed K ta Γ (il xs)) (hb : Ed K tb Γ (il ys)) (hz : xs.length + ys.length ≤ 1000) : En K (tOp rCat ta tb) Γ ((xs ++ ys).map D.int) :=
  (en_cat ha hb (by rw [List.length_map, List.length_map]; exact hz)).is (by rw [List.map_append])
theorem en_catB {xs ys : List (List Int)} (ha : Ed K ta Γ (btl xs)) (hb : Ed K tb Γ (btl ys)) (hz : xs.length + ys.length ≤ 1000) : En K (tOp rCat ta tb) Γ ((xs ++ ys).map itup) :=
  (en_cat ha hb (by rw [List.length_map, List.length_map]; exact hz)).is (by rw [List.map_append])
theorem all_rep {H : Hp} {vs : List V} {ds : List D} (r : DaAll H vs ds) : ∀ n : Nat, DaAll H (List.replicate n vs).flatten (List.replicate n ds).flatten
  | 0 => .nil
  | n + 1 => by
    rw [List.replicate_succ, List.replicate_succ, List.flatten_cons, List.flatten_cons]
    exact r.app (all_rep r n)
theorem en_rep {xs : List D} {n : Int} (ha : Ed K ta Γ (.lst xs)) (hb : Ed K tb Γ (.int n)) (hz : -1000 ≤ n ∧ n ≤ 1000 ∧ xs.length * n.toNat ≤ 1000) : En K (tOp rRep ta tb) Γ (List.replicate n.toNat xs).flatten := fun B S σ H k Q q =>
  ha B S σ H k _ fun v H1 e1 d1 => hb B S σ H1 (k.mono e1) _ fun u H2 e2 d2 => by
    have e := e1.trans e2
    have d1 := d1.mono (hs_mono e2)
    cases d1 with
    | lst h1 r1 =>
      exact ⟨_, n, _, rfl, da_int d2, (hs_out h1).1, by omega, by omega, by rw [r1.len]; exact Nat.le_of_lt (small1000 hz.2.2), fun p hp => q p _ _ (Evl.fresh_back e hp) (e.trans (Ex.new hp)) upd_same ((all_rep r1 _).mono (hs_hide_new hp))⟩
theorem ed_catT {xs ys : List D} (ha : Ed K ta Γ (.tup xs)) (hb : Ed K tb Γ (.tup ys)) (hz : xs.length + ys.length ≤ 1000) : Ed K (tOp (rCatA K) ta tb) Γ (.tup (xs ++ ys)) := fun B S σ H k Q q =>
  ha B S σ H k _ fun v H1 e1 d1 => hb B S σ H1 (k.mono e1) _ fun u H2 e2 d2 => by
    have e := e1.trans e2
    have d1 := d1.mono (hs_mono e2)
    cases d1 with
    | tup h1 r1 =>
      cases d2 with
      | tup h2 r2 =>
        refine ⟨_, _, _, _, rfl, rfl, sqt h1, sqt h2, by rw [r1.len, r2.len]; exact Nat.le_of_lt (small1000 hz), fun z => ?_, fun _ z => ?_, fun _ _ p hp => ?_⟩
        · subst z
          cases r1
          exact q _ H2 e (.tup h2 r2)
        · subst z
          cases r2
          refine q _ H2 e ?_
          rw [List.append_nil]
          exact .tup h1 r1
        · exact q _ _ (e.trans (Ex.new hp)) (.tup (hs_in ((k.mono e).free hp) upd_same) ((r1.app r2).mono (hs_mono (Ex.new hp))))
theorem ed_catIT {xs ys : List Int} (ha : Ed K ta Γ (itup xs)) (hb : Ed K tb Γ (itup ys)) (hz : xs.length + ys.length ≤ 1000) : Ed K (tOp (rCatA K) ta tb) Γ (itup (xs ++ ys)) :=
  (ed_catT ha hb (by rw [List.length_map, List.length_map]; exact hz)).is (by unfold itup; rw [List.map_append])
theorem cut_whole {α : Type} {xs : List α} {lo hi : Option Int} (h : HT.sIx xs.length 0 lo = 0 ∧ HT.sIx xs.length xs.length hi = xs.length) : cutG xs lo hi = xs := by
  unfold cutG
  rw [h.1, h.2, List.drop_zero, Nat.sub_zero, List.take_length]
theorem ed_slT {tl th : TO} {lo hi : Option Int} {ds : List D} (h : Ed K te Γ (.tup ds)) (h1 : Eo K tl Γ lo) (h2 : Eo K th Γ hi) : Ed K (tSl (rSlA K) te tl th) Γ (.tup (cutG ds lo hi)) := fun B S σ H k Q q =>
  h B S σ H k _ fun v H1 e1 d1 => h1 B S σ H1 (k.mono e1) _ fun H2 e2 => h2 B S σ H2 (k.mono (e1.trans e2)) _ fun H3 e3 => by
    have e := (e1.trans e2).trans e3
    have d1 := d1.mono (hs_mono (e2.trans e3))
    cases d1 with
    | tup h1 r =>
      refine ⟨_, _, rfl, sqt h1, fun z => ?_, fun _ p hp => ?_⟩
      · have z' := z
        rw [r.len] at z'
        refine q _ H3 e ?_
        rw [cut_whole z']
        exact .tup h1 r
      · exact q _ _ (e.trans (Ex.new hp)) (.tup (hs_in ((k.mono e).free hp) upd_same) ((cut_all r lo hi).mono (hs_mono (Ex.new hp))))
theorem ed_slIT {tl th : TO} {lo hi : Option Int} {ns : List Int} (h : Ed K te Γ (itup ns)) (h1 : Eo K tl Γ lo) (h2 : Eo K th Γ hi) : Ed K (tSl (rSlA K) te tl th) Γ (itup (cutG ns lo hi)) :=
  (ed_slT h h1 h2).is (by unfold itup; rw [cutG_map])
theorem en_listL {ds : List D} (h : Ed K ta Γ (.lst ds)) : En K (tCB (Evl.rListS K) (tCons ta tNil)) Γ ds := fun B S σ H k Q q =>
  h B S σ H k _ fun v H1 e1 d1 => by
    cases d1 with
    | lst h1 r => exact ⟨_, _, rfl, .inl (sql h1), fun p hp => q p _ _ (Evl.fresh_back e1 hp) (e1.trans (Ex.new hp)) upd_same (r.mono (hs_hide_new hp))⟩
theorem en_listT {ds : List D} (h : Ed K ta Γ (.tup ds)) : En K (tCB (Evl.rListS K) (tCons ta tNil)) Γ ds := fun B S σ H k Q q =>
  h B S σ H k _ fun v H1 e1 d1 => by
    cases d1 with
    | tup h1 r => exact ⟨_, _, rfl, .inr (sqt h1), fun p hp => q p _ _ (Evl.fresh_back e1 hp) (e1.trans (Ex.new hp)) upd_same (r.mono (hs_hide_new hp))⟩

/-! ### built-ins -/
theorem ed_sum {ns : List Int} (h : Ed K ta Γ (il ns)) : Ed K (tCB (rSum K) (tCons ta tNil)) Γ (.int ns.sum) := fun B S σ H k Q q =>
  h B S σ H k _ fun v H1 e1 d1 => by
    obtain ⟨a, rfl, h1⟩ := da_il d1
    exact ⟨a, ns, rfl, sql h1, q _ H1 e1 (.int _)⟩
/-- the whole numbers in order -/
def srt (ns : List Int) : List Int := ns.mergeSort fun a b => decide (a ≤ b)
theorem srt_perm (ns : List Int) : (srt ns).Perm ns := List.mergeSort_perm ns _
theorem srt_up (ns : List Int) : (srt ns).Pairwise (· ≤ ·) := by
  have h := List.pairwise_mergeSort (le := fun a b : Int => decide (a ≤ b)) (fun a b c h1 h2 => decide_eq_true (Int.le_trans (of_decide_eq_true h1) (of_decide_eq_true h2)))
    (fun a b => by
      rcases Int.le_total a b with h | h
      · simp [h]
      · simp [h]) ns
  exact h.imp fun h => of_decide_eq_true h
theorem srt_uniq {a b : List Int} (hp : a.Perm b) (ha : a.Pairwise (· ≤ ·)) (hb : b.Pairwise (· ≤ ·)) : a = b := PySem.W.ksm_same hp ha hb
theorem srt_is {a ns : List Int} (hp : a.Perm ns) (ha : a.Pairwise (· ≤ ·)) : a = srt ns := srt_uniq (hp.trans (srt_perm ns).symm) ha (srt_up ns)
theorem srt_len (ns : List Int) : (srt ns).length = ns.length := (srt_perm ns).length_eq
theorem en_sorted {ns : List Int} (h : Ed K ta Γ (il ns)) : En K (tCB (rSortedI K) (tCons ta tNil)) Γ ((srt ns).map D.int) := fun B S σ H k Q q =>
  h B S σ H k _ fun v H1 e1 d1 => by
    obtain ⟨a, rfl, h1⟩ := da_il d1
    refine ⟨a, ns, rfl, sql h1, fun ns' p hp1 hp2 hp => ?_⟩
    rw [srt_is hp1 hp2]
    exact q p _ _ (Evl.fresh_back e1 hp) (e1.trans (Ex.new hp)) upd_same (il_all _)
theorem ed_all {bs : List Bool} (h : Ed K ta Γ (.lst (bs.map D.bl))) : Ed K (tCB (rAll K) (tCons ta tNil)) Γ (.bl (bs.all id)) := fun B S σ H k Q q =>
  h B S σ H k _ fun v H1 e1 d1 => by
    cases d1 with
    | lst h1 r =>
      rw [all_bls r] at h1
      exact ⟨_, bs, rfl, sql h1, q _ H1 e1 (.bl _)⟩
theorem ed_max {ns : List Int} {m : Int} (h : Ed K ta Γ (il ns)) (hm : m ∈ ns ∧ ∀ y ∈ ns, y ≤ m) : Ed K (tCB (rMax K) (tCons ta tNil)) Γ (.int m) := fun B S σ H k Q q =>
  h B S σ H k _ fun v H1 e1 d1 => by
    obtain ⟨a, rfl, h1⟩ := da_il d1
    refine ⟨a, ns, rfl, sql h1, List.length_pos_of_mem hm.1, fun m' h2 h3 => ?_⟩
    have e : m' = m := Int.le_antisymm (hm.2 _ h2) (h3 _ hm.1)
    exact q _ H1 e1 (by rw [e]; exact .int _)
def r2max : List V → Hp → VK → Prop := fun xs H Q => ∃ i j, xs = [.int i, .int j] ∧ Q (.int (if j > i then j else i)) H
def r2min : List V → Hp → VK → Prop := fun xs H Q => ∃ i j, xs = [.int i, .int j] ∧ Q (.int (if j < i then j else i)) H
theorem cr_max2 {X : Cx} (hc : X.calm = true) : CallR X (.builtin "max") r2max := call_max2 hc
theorem cr_min2 {X : Cx} (hc : X.calm = true) : CallR X (.builtin "min") r2min := call_min2 hc
theorem ed_max2 {i j : Int} (ha : Ed K ta Γ (.int i)) (hb : Ed K tb Γ (.int j)) : Ed K (tCB r2max (tCons ta (tCons tb tNil))) Γ (.int (max i j)) := fun B S σ H k Q q =>
  ha B S σ H k _ fun v H1 e1 d1 => hb B S σ H1 (k.mono e1) _ fun u H2 e2 d2 => by
    refine ⟨i, j, by rw [da_int d1, da_int d2], ?_⟩
    have e : (if j > i then j else i) = max i j := by
      split <;> omega
    rw [e]
    exact q _ H2 (e1.trans e2) (.int _)
theorem ed_min2 {i j : Int} (ha : Ed K ta Γ (.int i)) (hb : Ed K tb Γ (.int j)) : Ed K (tCB r2min (tCons ta (tCons tb tNil))) Γ (.int (min i j)) := fun B S σ H k Q q =>
  ha B S σ H k _ fun v H1 e1 d1 => hb B S σ H1 (k.mono e1) _ fun u H2 e2 d2 => by
    refine ⟨i, j, by rw [da_int d1, da_int d2], ?_⟩
    have e : (if j < i then j else i) = min i j := by
      split <;> omega
    rw [e]
    exact q _ H2 (e1.trans e2) (.int _)
/-- list(range(n)) -/
theorem en_listRg {n : Int} (h : Ed K ta Γ (.int n)) (hn : 0 ≤ n ∧ n ≤ 1000) : En K (tLstRg (tRg1 ta)) Γ ((List.range n.toNat).map fun (i : Nat) => D.int (i : Int)) := fun B S σ H k Q q =>
  h B S σ H k _ fun v H1 e1 d1 => by
    refine ⟨n, da_int d1, RgOk.of_le (Int.le_refl 0) (by omega) (by omega) hn.1, fun p hp => ?_⟩
    refine q p _ _ (Evl.fresh_back e1 hp) (e1.trans (Ex.new hp)) upd_same ?_
    have e : rgV 0 n = (List.range n.toNat).map fun (i : Nat) => V.int (i : Int) := by
      unfold rgV
      rw [Int.sub_zero]
      refine List.map_congr_left fun i _ => ?_
      rw [Int.zero_add]
    rw [e]
    exact DaAll.flat (fun (i : Nat) => Da.int (i : Int)) _
/-! ### equality of data -/
def toP : D → PyData
  | .int i => .int i
  | .bl b => .bool b
  | .str x => .str x
  | _ => .none
theorem dp_il {H : Hp} {S : Hd} {v : V} {ns : List Int} (h : Da (Hs S H) v (il ns)) : Dp K H v (.list (ns.map PyData.int)) := by
  obtain ⟨a, rfl, h1⟩ := da_il h
  exact .lst (sql h1) (dpi ns)
where dpi {H : Hp} : ∀ ns : List Int, DpAll K H (ns.map V.int) (ns.map PyData.int)
  | [] => .nil
  | n :: r => .cons (.int n) (dpi r)
theorem dp_itup {H : Hp} {S : Hd} {v : V} {ns : List Int} (h : Da (Hs S H) v (itup ns)) : Dp K H v (.tuple (ns.map PyData.int)) := by
  obtain ⟨a, rfl, h1⟩ := da_itup h
  exact .tup (sqt h1) (dp_il.dpi ns)
theorem dp_btl {H : Hp} {S : Hd} {v : V} {bs : List (List Int)} (h : Da (Hs S H) v (btl bs)) : Dp K H v (.list (bs.map fun b => .tuple (b.map PyData.int))) := by
  unfold btl at h
  cases h with
  | lst h1 r => exact .lst (sql h1) (go bs _ r)
where go {H : Hp} {S : Hd} : ∀ (bs : List (List Int)) (vs : List V), DaAll (Hs S H) vs (bs.map itup) → DpAll K H vs (bs.map fun b => .tuple (b.map PyData.int))
  | [], _, h => by
    cases h
    exact .nil
  | b :: r, _, h => by
    cases h with
    | cons h1 h2 => exact .cons (dp_itup h1) (go r _ h2)
theorem eqv_ints : ∀ xs ys : List Int, PyData.eqvAll (xs.map PyData.int) (ys.map PyData.int) = decide (xs = ys)
  | [], [] => by simp [PyData.eqvAll]
  | [], _ :: _ => by simp [PyData.eqvAll]
  | _ :: _, [] => by simp [PyData.eqvAll]
  | a :: r, b :: t => by
    simp only [List.map_cons, PyData.eqvAll, PyData.eqv, eqv_ints r t]
    by_cases h : a = b <;> by_cases h' : r = t <;> simp [h, h']
theorem eqv_btl : ∀ xs ys : List (List Int), PyData.eqvAll (xs.map fun b => .tuple (b.map PyData.int)) (ys.map fun b => .tuple (b.map PyData.int)) = decide (xs = ys)
  | [], [] => by simp [PyData.eqvAll]
  | [], _ :: _ => by simp [PyData.eqvAll]
  | _ :: _, [] => by simp [PyData.eqvAll]
  | a :: r, b :: t => by
    simp only [List.map_cons, PyData.eqvAll, PyData.eqv, eqv_btl r t, eqv_ints]
    by_cases h : a = b <;> by_cases h' : r = t <;> simp [h, h']
theorem lay_btl : ∀ bs : List (List Int), PyData.canLayAll0 (bs.map fun b => .tuple (b.map PyData.int)) = true ∧ PyData.depthAll (bs.map fun b => .tuple (b.map PyData.int)) ≤ 1
  | [] => by simp [PyData.canLayAll0, PyData.depthAll]
  | b :: r => by
    have h := lay_btl r
    simp only [List.map_cons, PyData.canLayAll0, PyData.depthAll, PyData.canLay0, PyData.depth, PySem.W.ke_canLayAll0, PySem.W.ke_depthAll, h.1]
    refine ⟨rfl, ?_⟩
    have := h.2
    omega
theorem shaped_btl (bs : List (List Int)) : SeqAt.shaped (.list (bs.map fun b => .tuple (b.map PyData.int))) = true := by
  have h := lay_btl bs
  simp only [SeqAt.shaped, PyData.canLay0, PyData.depth, h.1, Bool.true_and]
  exact decide_eq_true (by have := h.2; omega)
theorem ed_eqI {xs ys : List Int} (ha : Ed K ta Γ (il xs)) (hb : Ed K tb Γ (il ys)) : Ed K (tOp (rEqD K) ta tb) Γ (.bl (decide (xs = ys))) := fun B S σ H k Q q =>
  ha B S σ H k _ fun v H1 e1 d1 => hb B S σ H1 (k.mono e1) _ fun u H2 e2 d2 => by
    refine ⟨_, _, dp_il (d1.mono (hs_mono e2)), dp_il d2, PySem.W.ke_shaped_ints _, PySem.W.ke_shaped_ints _, ?_⟩
    simp only [PyData.eqv, eqv_ints]
    exact q _ H2 (e1.trans e2) (.bl _)
theorem ed_neI {xs ys : List Int} (ha : Ed K ta Γ (il xs)) (hb : Ed K tb Γ (il ys)) : Ed K (tOp (rNeD K) ta tb) Γ (.bl (!decide (xs = ys))) := fun B S σ H k Q q =>
  ha B S σ H k _ fun v H1 e1 d1 => hb B S σ H1 (k.mono e1) _ fun u H2 e2 d2 => by
    refine ⟨_, _, dp_il (d1.mono (hs_mono e2)), dp_il d2, PySem.W.ke_shaped_ints _, PySem.W.ke_shaped_ints _, ?_⟩
    simp only [PyData.eqv, eqv_ints]
    exact q _ H2 (e1.trans e2) (.bl _)
theorem ed_eqB {xs ys : List (List Int)} (ha : Ed K ta Γ (btl xs)) (hb : Ed K tb Γ (btl ys)) : Ed K (tOp (rEqD K) ta tb) Γ (.bl (decide (xs = ys))) := fun B S σ H k Q q =>
  ha B S σ H k _ fun v H1 e1 d1 => hb B S σ H1 (k.mono e1) _ fun u H2 e2 d2 => by
    refine ⟨_, _, dp_btl (d1.mono (hs_mono e2)), dp_btl d2, shaped_btl _, shaped_btl _, ?_⟩
    simp only [PyData.eqv, eqv_btl]
    exact q _ H2 (e1.trans e2) (.bl _)
theorem ed_neB {xs ys : List (List Int)} (ha : Ed K ta Γ (btl xs)) (hb : Ed K tb Γ (btl ys)) : Ed K (tOp (rNeD K) ta tb) Γ (.bl (!decide (xs = ys))) := fun B S σ H k Q q =>
  ha B S σ H k _ fun v H1 e1 d1 => hb B S σ H1 (k.mono e1) _ fun u H2 e2 d2 => by
    refine ⟨_, _, dp_btl (d1.mono (hs_mono e2)), dp_btl d2, shaped_btl _, shaped_btl _, ?_⟩
    simp only [PyData.eqv, eqv_btl]
    exact q _ H2 (e1.trans e2) (.bl _)
/-- flat things -/
theorem ed_eqi {i j : Int} (ha : Ed K ta Γ (.int i)) (hb : Ed K tb Γ (.int j)) : Ed K (tOp rEq ta tb) Γ (.bl (decide (i = j))) := fun B S σ H k Q q =>
  ha B S σ H k _ fun v H1 e1 d1 => hb B S σ H1 (k.mono e1) _ fun u H2 e2 d2 => by
    rw [da_int d1, da_int d2]
    refine ⟨rfl, ?_⟩
    have e : decide (V.int i = V.int j) = decide (i = j) := by
      by_cases h : i = j <;> simp [h]
    rw [e]
    exact q _ H2 (e1.trans e2) (.bl _)
theorem ed_nei {i j : Int} (ha : Ed K ta Γ (.int i)) (hb : Ed K tb Γ (.int j)) : Ed K (tOp rNe ta tb) Γ (.bl (!decide (i = j))) := fun B S σ H k Q q =>
  ha B S σ H k _ fun v H1 e1 d1 => hb B S σ H1 (k.mono e1) _ fun u H2 e2 d2 => by
    rw [da_int d1, da_int d2]
    refine ⟨rfl, ?_⟩
    have e : decide (V.int i = V.int j) = decide (i = j) := by
      by_cases h : i = j <;> simp [h]
    rw [e]
    exact q _ H2 (e1.trans e2) (.bl _)
theorem ed_eqb {i j : Bool} (ha : Ed K ta Γ (.bl i)) (hb : Ed K tb Γ (.bl j)) : Ed K (tOp rEq ta tb) Γ (.bl (i == j)) := fun B S σ H k Q q =>
  ha B S σ H k _ fun v H1 e1 d1 => hb B S σ H1 (k.mono e1) _ fun u H2 e2 d2 => by
    rw [da_bl d1, da_bl d2]
    refine ⟨rfl, ?_⟩
    have e : decide (V.bl i = V.bl j) = (i == j) := by
      cases i <;> cases j <;> simp
    rw [e]
    exact q _ H2 (e1.trans e2) (.bl _)
theorem ed_neb {i j : Bool} (ha : Ed K ta Γ (.bl i)) (hb : Ed K tb Γ (.bl j)) : Ed K (tOp rNe ta tb) Γ (.bl (i != j)) := fun B S σ H k Q q =>
  ha B S σ H k _ fun v H1 e1 d1 => hb B S σ H1 (k.mono e1) _ fun u H2 e2 d2 => by
    rw [da_bl d1, da_bl d2]
    refine ⟨rfl, ?_⟩
    have e : (!decide (V.bl i = V.bl j)) = (i != j) := by
      cases i <;> cases j <;> simp
    rw [e]
    exact q _ H2 (e1.trans e2) (.bl _)
theorem ed_isb {i j : Bool} (ha : Ed K ta Γ (.bl i)) (hb : Ed K tb Γ (.bl j)) : Ed K (tOp rIsB ta tb) Γ (.bl (i == j)) := fun B S σ H k Q q =>
  ha B S σ H k _ fun v H1 e1 d1 => hb B S σ H1 (k.mono e1) _ fun u H2 e2 d2 => by
    refine ⟨i, j, da_bl d1, da_bl d2, ?_⟩
    have e : decide (i = j) = (i == j) := by
      cases i <;> cases j <;> rfl
    rw [e]
    exact q _ H2 (e1.trans e2) (.bl _)
theorem ed_isnb {i j : Bool} (ha : Ed K ta Γ (.bl i)) (hb : Ed K tb Γ (.bl j)) : Ed K (tOp rNotB ta tb) Γ (.bl (i != j)) := fun B S σ H k Q q =>
  ha B S σ H k _ fun v H1 e1 d1 => hb B S σ H1 (k.mono e1) _ fun u H2 e2 d2 => by
    refine ⟨i, j, da_bl d1, da_bl d2, ?_⟩
    have e : (!decide (i = j)) = (i != j) := by
      cases i <;> cases j <;> rfl
    rw [e]
    exact q _ H2 (e1.trans e2) (.bl _)

/-! ### objects -/
theorem look_p {x : V} : List.lookup ("person" : Str) [("person", x)] = some x := by
  unfold List.lookup
  rw [show (("person" : Str) == ("person" : Str)) = true by decide +kernel]
theorem ed_fldP {C : Addr} {p : D} (h : Ed K ta Γ (.hvy C p)) (hc : Cls K C) (hn : NoAttr K C "person") : Ed K (tFld K ta "person") Γ p := fun B S σ H k Q q =>
  h B S σ H k _ fun v H1 e1 d1 => by
    cases d1 with
    | hvy h1 r => exact ⟨_, C, _, _, _, rfl, (hs_out h1).1, hc, hn, look_p, q _ H1 e1 r⟩
theorem look_b {x y : V} : List.lookup ("boats" : Str) [("boats", x), ("mark", y)] = some x := by
  unfold List.lookup
  rw [show (("boats" : Str) == ("boats" : Str)) = true by decide +kernel]
theorem look_m {x y : V} : List.lookup ("mark" : Str) [("boats", x), ("mark", y)] = some y := by
  unfold List.lookup
  rw [show (("mark" : Str) == ("boats" : Str)) = false by decide +kernel]
  show List.lookup ("mark" : Str) [("mark", y)] = some y
  unfold List.lookup
  rw [show (("mark" : Str) == ("mark" : Str)) = true by decide +kernel]
theorem ed_fldB {C : Addr} {b m : D} (h : Ed K ta Γ (.bts C b m)) (hc : Cls K C) (hn : NoAttr K C "boats") : Ed K (tFld K ta "boats") Γ b := fun B S σ H k Q q =>
  h B S σ H k _ fun v H1 e1 d1 => by
    cases d1 with
    | bts h1 r1 r2 => exact ⟨_, C, _, _, _, rfl, (hs_out h1).1, hc, hn, look_b, q _ H1 e1 r1⟩
theorem ed_fldM {C : Addr} {b m : D} (h : Ed K ta Γ (.bts C b m)) (hc : Cls K C) (hn : NoAttr K C "mark") : Ed K (tFld K ta "mark") Γ m := fun B S σ H k Q q =>
  h B S σ H k _ fun v H1 e1 d1 => by
    cases d1 with
    | bts h1 r1 r2 => exact ⟨_, C, _, _, _, rfl, (hs_out h1).1, hc, hn, look_m, q _ H1 e1 r2⟩
end
end Ly

/-! The layer, third part: what is walked, comprehensions, statements, calls. -/
namespace Ly
open PySem L2
open Evl (Ex)

/-! ### what is walked -/
section
variable (K : PySem.W.Frag)
/-- what comes at the i-th turn -/
def Yl (Hv : Hp) (ds : List D) : Nat → Hp → V → Hp → Prop := fun i H x H' => Ex H H' ∧ ∃ d, ds[i]? = some d ∧ ∀ S' : Hd, (∀ a, S' a → ∃ o, H a = some o) → Ex Hv (Hs S' H) → Da (Hs S' H') x d
/-- a source whose turns give ds -/
def Si (wi : TI) (Γ : Gm) (ds : List D) : Prop := ∀ B S σ H, Ok K B S σ Γ H → ∀ R : It → Hp → Prop,
  (∀ J H1, Ex H H1 → Walk J ds.length (fun H2 => Ex (Hs S H1) H2) (Yl (Hs S H1) ds) → R J H1) → wi σ H R
/-- a target takes d and leads from Γ to Γ' -/
def Tg (g : TG) (Γ : Gm) (d : D) (Γ' : Gm) (vs : List Nat) : Prop := ∀ B S σ H x, Ok K B S σ Γ H → Da (Hs S H) x d → ∀ Q : St → Hp → Prop, (∀ σ2, Ok K B S σ2 Γ' H → wipe σ2 vs = wipe σ vs → Q σ2 H) → g x σ H Q
end
section
variable {K : PySem.W.Frag} {Γ : Gm} {te ta tb tl : TE} {tt : TT} {wi : TI} {g : TG} {d : D}
theorem si_list {ds : List D} (h : Ed K tl Γ (.lst ds)) : Si K (iList K tl) Γ ds := fun B S σ H k R q =>
  h B S σ H k _ fun v H1 e1 d1 => by
    cases d1 with
    | @lst a xs _ h1 r =>
      refine ⟨a, rfl, ⟨xs, sql h1⟩, q _ H1 e1 ?_⟩
      have w := walk_list (K := K) (a := a) (xs := xs)
      rw [r.len] at w
      refine w.mono (fun H2 e2 => .inl (.inl (e2 _ _ h1))) fun i H2 x H3 hi e2 y => ?_
      obtain ⟨rfl, y⟩ := y
      obtain ⟨d, hd, r1⟩ := r.getV y
      exact ⟨Ex.refl _, d, hd, fun S' _ e3 => r1.mono e3⟩
theorem si_tup {ds : List D} (h : Ed K tl Γ (.tup ds)) : Si K (iTup K tl) Γ ds := fun B S σ H k R q =>
  h B S σ H k _ fun v H1 e1 d1 => by
    cases d1 with
    | @tup a xs _ h1 r =>
      refine ⟨a, rfl, ⟨xs, sqt h1⟩, q _ H1 e1 ?_⟩
      have w := walk_tup (K := K) (a := a) (xs := xs)
      rw [r.len] at w
      refine w.mono (fun H2 e2 => .inl (.inl (e2 _ _ h1))) fun i H2 x H3 hi e2 y => ?_
      obtain ⟨rfl, y⟩ := y
      obtain ⟨d, hd, r1⟩ := r.getV y
      exact ⟨Ex.refl _, d, hd, fun S' _ e3 => r1.mono e3⟩
/-- the numbers that range gives -/
def rgD (lo : Int) (n : Nat) : List D := (List.range n).map fun (i : Nat) => D.int (lo + (i : Int))
theorem rgD_get {lo : Int} {n i : Nat} (h : i < n) : (rgD lo n)[i]? = some (.int (lo + (i : Int))) := by
  unfold rgD
  rw [List.getElem?_map, List.getElem?_range h]
  rfl
theorem rgD_len (lo : Int) (n : Nat) : (rgD lo n).length = n := by
  unfold rgD
  rw [List.length_map, List.length_range]
theorem si_range1 {n : Int} (h : Ed K ta Γ (.int n)) (hn : n ≤ 1000) (h0 : -1000 ≤ n) : Si K (iRng1 (tCons ta tNil)) Γ (rgD 0 n.toNat) := fun B S σ H k R q =>
  h B S σ H k _ fun v H1 e1 d1 => by
    refine ⟨n, by rw [da_int d1], by omega, by omega, q _ H1 e1 ?_⟩
    have w := walk_range (lo := 0) (n := n.toNat)
    rw [← rgD_len 0 n.toNat] at w
    rw [rgD_len] at w ⊢
    refine w.mono (fun _ _ => True.intro) fun i H2 x H3 hi e2 y => ?_
    obtain ⟨rfl, rfl⟩ := y
    exact ⟨Ex.refl _, _, rgD_get hi, fun S' _ e3 => .int _⟩
theorem si_range2 {lo n : Int} (ha : Ed K ta Γ (.int lo)) (h : Ed K tb Γ (.int n)) (hn : -1000 ≤ lo ∧ lo ≤ 1000 ∧ n ≤ 1000 ∧ -1000 ≤ n) : Si K (iRng2 (tCons ta (tCons tb tNil))) Γ (rgD lo (n - lo).toNat) := fun B S σ H k R q =>
  ha B S σ H k _ fun v H1 e1 d1 => h B S σ H1 (k.mono e1) _ fun u H2 e2 d2 => by
    refine ⟨lo, n, by rw [da_int d1, da_int d2], by omega, q _ H2 (e1.trans e2) ?_⟩
    have w := walk_range (lo := lo) (n := (n - lo).toNat)
    rw [← rgD_len lo (n - lo).toNat] at w
    rw [rgD_len] at w ⊢
    refine w.mono (fun _ _ => True.intro) fun i H2 x H3 hi e2 y => ?_
    obtain ⟨rfl, rfl⟩ := y
    exact ⟨Ex.refl _, _, rgD_get hi, fun S' _ e3 => .int _⟩
theorem si_range3 {lo n c : Int} {m : Nat} {tc : TE} (ha : Ed K ta Γ (.int lo)) (h : Ed K tb Γ (.int n)) (hc : Ed K tc Γ (.int c)) (hr : RgC lo n c m) :
    Si K (iRng3 (tCons ta (tCons tb (tCons tc tNil)))) Γ ((List.range m).map fun (i : Nat) => D.int (lo + (i : Int) * c)) := fun B S σ H k R q =>
  ha B S σ H k _ fun v H1 e1 d1 => h B S σ H1 (k.mono e1) _ fun u H2 e2 d2 => hc B S σ H2 (k.mono (e1.trans e2)) _ fun w H3 e3 d3 => by
    refine ⟨lo, n, c, m, by rw [da_int d1, da_int d2, da_int d3], hr, q _ H3 ((e1.trans e2).trans e3) ?_⟩
    rw [List.length_map, List.length_range]
    refine (walk_rangeC (lo := lo) (c := c) (n := m)).mono (fun _ _ => True.intro) fun i H2 x H3 hi e2 y => ?_
    obtain ⟨rfl, rfl⟩ := y
    refine ⟨Ex.refl _, .int (lo + (i : Int) * c), ?_, fun S' _ e3 => .int _⟩
    rw [List.getElem?_map, List.getElem?_range hi]
    rfl
/-- pairs of a place and what stands there -/
def enD (ds : List D) : List D := ds.mapIdx fun i d => .tup [.int (i : Int), d]
theorem si_enum {ds : List D} (h : Ed K ta Γ (.lst ds)) : Si K (iEnum K (tCons ta tNil)) Γ (enD ds) := fun B S σ H k R q =>
  h B S σ H k _ fun v H1 e1 d1 => by
    cases d1 with
    | @lst a xs _ h1 r =>
      refine ⟨a, xs, rfl, sql h1, q _ H1 e1 ?_⟩
      have w := walk_enum (K := K) (a := a) (xs := xs)
      have e : (enD ds).length = xs.length := by
        unfold enD
        rw [List.length_mapIdx, r.len]
      rw [e]
      refine w.mono (fun H2 e2 => .inl (.inl (e2 _ _ h1))) fun i H2 x H3 hi e2 y => ?_
      obtain ⟨T, x1, x2, rfl, nT, rfl, y1, y2⟩ := y
      obtain ⟨d, hd, r1⟩ := r.getV y2
      refine ⟨Ex.new nT, .tup [.int (i : Int), d], ?_, fun S' hS e3 => ?_⟩
      · unfold enD
        rw [List.getElem?_mapIdx, hd]
        rfl
      · have nS : ¬ S' T := fun z => by
          obtain ⟨o, q⟩ := hS T z
          rw [nT] at q
          cases q
        cases y1
        have e4 := hs_mono (S := S') (Ex.new (o := .tup [.int (i : Nat), x2]) nT)
        exact .tup (hs_in nS upd_same) (.cons (.int _) (.cons ((r1.mono e3).mono e4) .nil))

theorem wipe_one {σ : St} {j : Nat} {x : Option V} : wipe (σ.set j x) [j] = wipe σ [j] := by
  show (σ.set j x).set j none = σ.set j none
  rw [List.set_set]
theorem tg_name {j : Nat} (hw : ∀ x, Γ.w = some x → x.1 ≠ j) : Tg K (gName j) Γ d ⟨Γ.g.set j (some (.v d)), Γ.w⟩ [j] := fun B S σ H x k r Q q => q _ (k.set r hw) wipe_one
theorem tg_pair {i j : Nat} {d1 d2 : D} (hw : ∀ x, Γ.w = some x → x.1 ≠ i ∧ x.1 ≠ j) : Tg K (gTup K 2 (gCons (gName i) (gCons (gName j) gNil))) Γ (.tup [d1, d2]) ⟨(Γ.g.set i (some (.v d1))).set j (some (.v d2)), Γ.w⟩ [i, j] := fun B S σ H x k r Q q => by
  cases r with
  | tup h1 r =>
    cases r with
    | cons r1 r =>
      cases r with
      | cons r2 r =>
        cases r
        refine ⟨_, _, rfl, sqt h1, rfl, _, _, rfl, _, _, rfl, rfl, ?_⟩
        have k1 := k.set r1 (i := i) fun x h => (hw x h).1
        have k2 := k1.set r2 (i := j) fun x h => (hw x h).2
        refine q _ k2 ?_
        show ((((σ.set i _).set j _).set j none).set i none) = (σ.set j none).set i none
        rw [List.set_set]
        by_cases e : i = j
        · subst e
          rw [List.set_set, List.set_set, List.set_set]
        · rw [List.set_comm _ _ e, List.set_set]
def wipeG (l : List (Option Slo)) : List Nat → List (Option Slo)
  | [] => l
  | v :: vs => (wipeG l vs).set v none
theorem ok_wipe {B : Bs} {S : Hd} {σ : St} {H : Hp} (k : Ok K B S σ Γ H) : ∀ {vs : List Nat}, (∀ x, Γ.w = some x → x.1 ∉ vs) → Ok K B S (wipe σ vs) ⟨wipeG Γ.g vs, Γ.w⟩ H
  | [], _ => k
  | v :: vs, h => (ok_wipe k fun x hx z => h x hx (List.mem_cons_of_mem _ z)).drop (Γ := ⟨wipeG Γ.g vs, Γ.w⟩) fun x hx z => h x hx (by rw [z]; exact List.mem_cons_self ..)
theorem wipe_set_none {σ : St} {v : Nat} : ∀ {vs : List Nat}, wipe (σ.set v none) vs = (wipe σ vs).set v none
  | [] => rfl
  | u :: vs => by
    show (wipe (σ.set v none) vs).set u none = ((wipe σ vs).set u none).set v none
    rw [wipe_set_none]
    by_cases e : v = u
    · rw [e]
    · rw [List.set_comm _ _ e]
theorem wipe_wipe {σ : St} : ∀ {vs : List Nat}, wipe (wipe σ vs) vs = wipe σ vs
  | [] => rfl
  | v :: vs => by
    show (wipe ((wipe σ vs).set v none) vs).set v none = (wipe σ vs).set v none
    rw [wipe_set_none, wipe_wipe, List.set_set]
/-- comprehensions -/
theorem en_lc {α : Type} {vs : List Nat} {ds : List D} {xs : List α} {emb : α → D} {Γa : α → Gm} {f : α → Bool} {e : α → D} (h : Si K wi Γ ds) (hx : ds = xs.map emb) (hz : xs.length ≤ 1000) (hw : ∀ x, Γ.w = some x → x.1 ∉ vs)
    (hg : ∀ a, a ∈ xs → Tg K g ⟨wipeG Γ.g vs, Γ.w⟩ (emb a) (Γa a) vs) (ht : ∀ a, a ∈ xs → Et K tt (Γa a) (f a)) (he : ∀ a, a ∈ xs → f a = true → Ed K te (Γa a) (e a)) :
    En K (tLc wi g tt te vs) Γ ((xs.filter f).map e) := fun B S σ H k Q q => by
  refine h B S σ H k _ fun J H1 e1 w => ?_
  intro Dl hD
  have k1 := k.mono e1
  have kD := k1.hide (o := .lst []) hD
  have nS := k1.free hD
  have eD : Ex (Hs S H1) (Hs (hide Dl S) (upd H1 Dl (.lst []))) := hs_hide_new hD
  refine lc_it w (fun i H' => Ex H1 H' ∧ Ok K B (hide Dl S) σ Γ H' ∧ Ex (Hs S H1) (Hs (hide Dl S) H') ∧ ∃ acc, H' Dl = some (.lst acc) ∧ DaAll (Hs (hide Dl S) H') acc (((xs.take i).filter f).map e))
    ⟨Ex.new hD, kD, eD, [], upd_same, by rw [List.take_zero]; exact .nil⟩ (fun i H' _ p => (hs_ex (S := S)).trans p.1) ?_ ?_
  · rintro i x H2 H3 hi ⟨p1, p2, p3, acc, p4, p5⟩ ⟨y1, d, hd, y2⟩
    rw [hx, List.getElem?_map] at hd
    cases ea : xs[i]? with
    | none =>
      rw [ea] at hd
      cases hd
    | some a =>
      rw [ea] at hd
      have ed : d = emb a := (Option.some.inj hd).symm
      subst ed
      have ha : a ∈ xs := List.mem_of_getElem? ea
      have hlen : i < xs.length := (List.getElem?_eq_some_iff.mp ea).1
      have r := y2 (hide Dl S) p2.inn p3
      have p2' := p2.mono y1
      refine hg a ha B (hide Dl S) (wipe σ vs) H3 x (ok_wipe p2' hw) r _ fun σ2 k2 hwp => ⟨hwp.trans wipe_wipe, ?_⟩
      refine ht a ha B (hide Dl S) σ2 H3 k2 _ fun H4 e4 => ?_
      have p34 := y1.trans e4
      have hacc : DaAll (Hs (hide Dl S) H4) acc (((xs.take i).filter f).map e) := p5.mono (hs_mono p34)
      have etk : xs.take (i + 1) = xs.take i ++ [a] := by
        rw [List.take_add_one, ea]
        rfl
      cases hf : f a with
      | false =>
        refine ⟨p1.trans p34, p2.mono p34, p3.trans (hs_mono p34), acc, p34 _ _ p4, ?_⟩
        rw [etk, List.filter_append, List.filter_cons_of_neg (by rw [hf]; exact Bool.false_ne_true), List.filter_nil, List.append_nil]
        exact hacc
      | true =>
        refine he a ha hf B (hide Dl S) σ2 H4 (k2.mono e4) _ fun v H5 e5 r5 => ?_
        have p35 := p34.trans e5
        refine ⟨acc, p35 _ _ p4, ?_, ?_⟩
        · have z := hacc.len
          rw [z, List.length_map]
          refine small1000 ?_
          have z2 := List.length_filter_le f (xs.take i)
          rw [List.length_take] at z2
          omega
        · have hh : hide Dl S Dl := .inl rfl
          have q1 : Ok K B (hide Dl S) σ Γ H5 := p2.mono p35
          refine ⟨fun b o hb => ?_, ⟨fun b hb => ?_, q1.sub, fun b o hb => ?_, ?_, q1.len, fun j d hj => ?_, q1.scr, fun y hy => ?_⟩, ?_, acc ++ [v], upd_same, ?_⟩
          · rw [upd_ne (ne_of_none hb hD)]
            exact p35 _ _ (p1 _ _ hb)
          · by_cases eb : b = Dl
            · subst eb
              exact ⟨_, upd_same⟩
            · rw [upd_ne eb]
              exact q1.inn b hb
          · rw [upd_ne (ne_of_none (k1.ent _ _ hb) hD)]
            exact q1.ent _ _ hb
          · rw [hs_upd hh]
            exact q1.vis
          · rw [hs_upd hh]
            exact q1.val j d hj
          · have z := q1.own y hy
            have z0 := k1.own y hy
            obtain ⟨iy, ow⟩ := y
            cases ow with
            | lst es =>
              obtain ⟨a1, xs1, h1, h2, h3, h4, h5, h6⟩ := z
              obtain ⟨a2, xs2, g1, g2, g3, g4, g5, g6⟩ := z0
              have ea : a1 = a2 := by
                rw [h1] at g1
                exact V.ref.inj (Option.some.inj (Option.some.inj g1))
              exact ⟨a1, xs1, h1, h2, h3, h4, by rw [upd_ne (by rw [ea]; exact ne_of_none g5 hD)]; exact h5, by rw [hs_upd hh]; exact h6⟩
            | ob C es m =>
              obtain ⟨a1, l1, dx, xs1, h1, h2, h3, h4, h5, h6, h7, h8, h9, h10⟩ := z
              obtain ⟨a2, l2, dx2, xs2, g1, g2, g3, g4, g5, g6, g7, g8, g9, g10⟩ := z0
              have ea : a1 = a2 := by
                rw [h1] at g1
                exact V.ref.inj (Option.some.inj (Option.some.inj g1))
              subst ea
              have e8 := (p35.trans (Ex.refl _)) _ _ ((p1.trans (Ex.refl _)) _ _ g8)
              rw [h8] at e8
              have el : l1 = l2 := by
                injection e8 with e8
                injection e8 with _ _ e8
                injection e8 with e8 _
                injection e8 with _ e8
                exact V.ref.inj e8
              subst el
              exact ⟨a1, l1, dx, xs1, h1, h2, h3, h4, h5, h6, h7, by rw [upd_ne (ne_of_none g8 hD)]; exact h8, by rw [upd_ne (ne_of_none g9 hD)]; exact h9, by rw [hs_upd hh]; exact h10⟩
          · rw [hs_upd hh]
            exact p3.trans (hs_mono p35)
          · rw [hs_upd hh, etk, List.filter_append, List.filter_cons_of_pos hf, List.filter_nil, List.map_append]
            exact (hacc.mono (hs_mono e5)).app (.cons r5 .nil)
  · rintro H' ⟨p1, p2, p3, acc, p4, p5⟩
    have e : xs.take ds.length = xs := by
      rw [hx, List.length_map, List.take_length]
    rw [e] at p5
    exact q Dl acc H' (Evl.fresh_back e1 hD) (e1.trans p1) p4 p5
end
end Ly

/-! The layer, fourth part: statements, promises, calls. -/
namespace Ly
open PySem L2
open Evl (Ex)

/-- what is handed back: any value, or a new object of boats -/
structure Rt where
  p : D → Prop
  n : Addr → List D → Int → Prop := fun _ _ _ => False
instance : Coe (D → Prop) Rt := ⟨fun p => ⟨p, fun _ _ _ => False⟩⟩
/-- a new object of boats, its list new, too -/
structure NewB (He : Hp) (S0 : Hd) (H' : Hp) (a : Addr) (C : Addr) (ds : List D) (m : Int) : Prop where
  ex : ∃ l dx xs, a ≠ l ∧ He a = none ∧ He l = none ∧ H' a = some (.ins C dx [("boats", .ref l), ("mark", .int m)]) ∧ H' l = some (.lst xs) ∧ DaAll (Hs (hide a (hide l S0)) H') xs ds
/-- a statement leads from Γ to one of N (behind it), Bk (break), Ct (continue), or hands back one of R; classes that it may raise: Xc -/
def Sg (K : PySem.W.Frag) (E : XK) (Xc : Addr → Prop) (ts : TS) (Γ : Gm) (N Bk Ct : Gm → Prop) (R : Rt) : Prop :=
  ∀ B S σ H, Ok K B S σ Γ H → ∀ Z : Ends, (∀ S' σ' Γ' H', N Γ' → Ok K B S' σ' Γ' H' → Z.nx σ' H') → (∀ S' σ' Γ' H', Bk Γ' → Ok K B S' σ' Γ' H' → Z.bk σ' H') →
    (∀ S' σ' Γ' H', Ct Γ' → Ok K B S' σ' Γ' H' → Z.ct σ' H') → (∀ v r H', R.p r → Ex B.He H' → Da (Hs B.S0 H') v r → Z.rt v H') →
    (∀ a C ds m H', R.n C ds m → Ex B.He H' → NewB B.He B.S0 H' a C ds m → Z.rt (.ref a) H') → (∀ C H', Xc C → Ex B.He H' → E (.ref C) none H') → ts Z σ H
section
variable {K : PySem.W.Frag} {E : XK} {Xc : Addr → Prop} {Γ : Gm} {N N1 Bk Ct : Gm → Prop} {R : Rt} {t u : TS} {te ta tb : TE} {tt : TT} {wi : TI} {g : TG} {d : D} {P : D → Prop}
theorem sg_seq (h : Sg K E Xc t Γ N1 Bk Ct R) (h2 : ∀ Γ', N1 Γ' → Sg K E Xc u Γ' N Bk Ct R) : Sg K E Xc (tSeq t u) Γ N Bk Ct R := fun B S σ H k Z n b c r y x =>
  h B S σ H k { Z with nx := u Z } (fun S' σ' Γ' H' q k' => h2 Γ' q B S' σ' H' k' Z n b c r y x) b c r y x
theorem sg_next (h : N Γ) : Sg K E Xc tNext Γ N Bk Ct R := fun B S σ H k Z n b c r y x => n S σ Γ H h k
theorem sg_break (h : Bk Γ) : Sg K E Xc tBreak Γ N Bk Ct R := fun B S σ H k Z n b c r y x => b S σ Γ H h k
theorem sg_cont (h : Ct Γ) : Sg K E Xc tCont Γ N Bk Ct R := fun B S σ H k Z n b c r y x => c S σ Γ H h k
theorem sg_imp {N' : Gm → Prop} (h : Sg K E Xc t Γ N' Bk Ct R) (i : ∀ G, N' G → N G) : Sg K E Xc t Γ N Bk Ct R := fun B S σ H k Z n b c r y x =>
  h B S σ H k Z (fun S' σ' Γ' H' q k' => n S' σ' Γ' H' (i _ q) k') b c r y x
theorem sg_retG (h : Eg K te Γ P) (hr : ∀ d, P d → R.p d) : Sg K E Xc (tRet te) Γ N Bk Ct R := fun B S σ H k Z n b c r y x =>
  h B S σ H k _ fun v d H1 p e1 d1 => r v d H1 (hr d p) (k.ent.trans e1) (d1.mono (hs_sub k.sub))
theorem sg_ret (h : Ed K te Γ d) (hr : R.p d) : Sg K E Xc (tRet te) Γ N Bk Ct R := sg_retG h.toEg fun x e => e ▸ hr
theorem sg_retN (hr : R.p .non) : Sg K E Xc tRetN Γ N Bk Ct R := fun B S σ H k Z n b c r y x => r _ _ H hr k.ent .non
theorem sg_if {b : Bool} (h : Et K tt Γ b) (h1 : b = true → Sg K E Xc t Γ N Bk Ct R) (h2 : b = false → Sg K E Xc u Γ N Bk Ct R) : Sg K E Xc (tIfS tt t u) Γ N Bk Ct R := fun B S σ H k Z n bb c r y x =>
  h B S σ H k _ fun H1 e1 => by
    cases b with
    | true => exact h1 rfl B S σ H1 (k.mono e1) Z n bb c r y x
    | false => exact h2 rfl B S σ H1 (k.mono e1) Z n bb c r y x
theorem sg_setG {i : Nat} (h : Eg K te Γ P) (hw : ∀ x, Γ.w = some x → x.1 ≠ i) (hn : ∀ d, P d → N ⟨Γ.g.set i (some (.v d)), Γ.w⟩) : Sg K E Xc (tAsg te (gName i)) Γ N Bk Ct R := fun B S σ H k Z n b c r y x =>
  h B S σ H k _ fun v d H1 p e1 d1 => n S _ _ H1 (hn d p) ((k.mono e1).set d1 hw)
theorem sg_set {i : Nat} (h : Ed K te Γ d) (hw : ∀ x, Γ.w = some x → x.1 ≠ i) (hn : N ⟨Γ.g.set i (some (.v d)), Γ.w⟩) : Sg K E Xc (tAsg te (gName i)) Γ N Bk Ct R := sg_setG h.toEg hw fun x e => e ▸ hn
/-- x = e, then the rest -/
theorem sq_set {i : Nat} (h : Ed K te Γ d) (hw : ∀ x, Γ.w = some x → x.1 ≠ i) (h2 : Sg K E Xc u ⟨Γ.g.set i (some (.v d)), Γ.w⟩ N Bk Ct R) : Sg K E Xc (tSeq (tAsg te (gName i)) u) Γ N Bk Ct R :=
  sg_seq (N1 := fun G => G = ⟨Γ.g.set i (some (.v d)), Γ.w⟩) (sg_set h hw rfl) fun G e => e ▸ h2
theorem sq_setG {i : Nat} (h : Eg K te Γ P) (hw : ∀ x, Γ.w = some x → x.1 ≠ i) (h2 : ∀ d, P d → Sg K E Xc u ⟨Γ.g.set i (some (.v d)), Γ.w⟩ N Bk Ct R) : Sg K E Xc (tSeq (tAsg te (gName i)) u) Γ N Bk Ct R :=
  sg_seq (N1 := fun G => ∃ d, P d ∧ G = ⟨Γ.g.set i (some (.v d)), Γ.w⟩) (sg_setG h hw fun d p => ⟨d, p, rfl⟩) fun G ⟨d, p, e⟩ => e ▸ h2 d p
theorem sg_dropG (h : Eg K te Γ P) (hn : N Γ) : Sg K E Xc (tDrop te) Γ N Bk Ct R := fun B S σ H k Z n b c r y x => h B S σ H k _ fun v d H1 p e1 d1 => n S _ _ H1 hn (k.mono e1)
theorem sq_if {b : Bool} (h : Et K tt Γ b) (h1 : b = true → Sg K E Xc t Γ N1 Bk Ct R) (h2 : b = false → Sg K E Xc u Γ N1 Bk Ct R) {z : TS} (h3 : ∀ Γ', N1 Γ' → Sg K E Xc z Γ' N Bk Ct R) : Sg K E Xc (tSeq (tIfS tt t u) z) Γ N Bk Ct R := sg_seq (sg_if h h1 h2) h3
/-- if c: return .. (or raise), and on -/
theorem sq_when {b : Bool} {z : TS} (h : Et K tt Γ b) (h1 : b = true → Sg K E Xc t Γ (fun _ => False) Bk Ct R) (h2 : b = false → Sg K E Xc z Γ N Bk Ct R) : Sg K E Xc (tSeq (tIfS tt t tNext) z) Γ N Bk Ct R :=
  sg_seq (N1 := fun G => G = Γ ∧ b = false) (sg_if h (fun e => sg_imp (h1 e) (fun _ z => z.elim)) fun e => sg_next ⟨rfl, e⟩) fun G e => e.1 ▸ h2 e.2

/-! ### what is owned -/
theorem hs_hide_fresh {S : Hd} {H H1 : Hp} {p : Addr} (h : H p = none) (e : Ex H H1) : Ex (Hs S H) (Hs (hide p S) H1) := fun a o q => by
  have z := hs_out q
  exact hs_in (fun w => w.elim (fun y => by rw [y, h] at z; cases z.1) z.2) (e _ _ z.1)
theorem ok_own {B : Bs} {S : Hd} {σ : St} {H H1 : Hp} {p : Addr} {i : Nat} {xs : List V} {ds : List D} (k : Ok K B S σ Γ H) (hp : H p = none) (e : Ex H H1) (h : H1 p = some (.lst xs)) (r : DaAll (Hs (hide p S) H1) xs ds) (hi : i < Γ.g.length) :
    Ok K B (hide p S) (σ.set i (some (.ref p))) ⟨Γ.g.set i none, some (i, .lst ds)⟩ H1 where
  inn := fun a q => by
    rcases q with rfl | q
    · exact ⟨_, h⟩
    · obtain ⟨o, z⟩ := k.inn a q
      exact ⟨o, e _ _ z⟩
  sub := fun a q => .inr (k.sub a q)
  ent := k.ent.trans e
  vis := k.vis.trans (hs_hide_fresh hp e)
  len := by
    show (σ.set i _).length = (Γ.g.set i _).length
    rw [List.length_set, List.length_set, k.len]
  val := fun j d hj => by
    rcases get_set hj with ⟨rfl, hl, e1⟩ | ⟨n, hj⟩
    · cases e1
    · obtain ⟨u, h1, h2⟩ := k.val j d hj
      exact ⟨u, by rw [List.getElem?_set_ne (Ne.symm n)]; exact h1, h2.mono (hs_hide_fresh hp e)⟩
  scr := fun j ns hj => by
    rcases get_set hj with ⟨rfl, hl, e1⟩ | ⟨n, hj⟩
    · cases e1
    · obtain ⟨u, h1, h2⟩ := k.scr j ns hj
      exact ⟨u, by rw [List.getElem?_set_ne (Ne.symm n)]; exact h1, h2⟩
  own := fun x hx => by
    cases hx
    have n1 : ¬ B.S0 p := fun z => by
      obtain ⟨o, q⟩ := k.inn p (k.sub p z)
      rw [hp] at q
      cases q
    have n2 : B.He p = none := by
      cases q : B.He p with
      | none => rfl
      | some o =>
        have z := k.ent p o q
        rw [hp] at z
        cases z
    exact ⟨p, xs, List.getElem?_set_self (by rw [k.len]; exact hi), .inl rfl, n1, n2, h, r⟩
/-- x = a new list that is x's own -/
theorem sq_own {i : Nat} {ds : List D} (h : En K te Γ ds) (hi : i < Γ.g.length) (h2 : Sg K E Xc u ⟨Γ.g.set i none, some (i, .lst ds)⟩ N Bk Ct R) : Sg K E Xc (tSeq (tAsg te (gName i)) u) Γ N Bk Ct R := fun B S σ H k Z n b c r y x =>
  h B S σ H k _ fun p xs H1 hp e1 h1 d1 => h2 B (hide p S) _ H1 (ok_own k hp e1 h1 d1 hi) Z n b c r y x
theorem ok_upd {B : Bs} {S : Hd} {σ : St} {H : Hp} {a : Addr} {i : Nat} {ys : List V} {ds es : List D} (k : Ok K B S σ Γ H) (hw : Γ.w = some (i, .lst ds)) (ha : σ[i]? = some (some (.ref a))) (r : DaAll (Hs S H) ys es) :
    Ok K B S σ ⟨Γ.g, some (i, .lst es)⟩ (upd H a (.lst ys)) := by
  obtain ⟨a', xs, h1, h2, h3, h4, h5, h6⟩ := k.own _ hw
  have ea : a' = a := by
    rw [h1] at ha
    exact V.ref.inj (Option.some.inj (Option.some.inj ha))
  subst ea
  have hu := hs_upd (H := H) (o := .lst ys) h2
  refine ⟨fun b q => ?_, k.sub, fun b o q => ?_, by rw [hu]; exact k.vis, k.len, by rw [hu]; exact k.val, k.scr, fun x hx => ?_⟩
  · by_cases e : b = a'
    · rw [e]
      exact ⟨_, upd_same⟩
    · rw [upd_ne e]
      exact k.inn b q
  · rw [upd_ne (ne_of_none q h4)]
    exact k.ent _ _ q
  · cases hx
    exact ⟨a', ys, h1, h2, h3, h4, upd_same, by rw [hu]; exact r⟩
/-- x.append(e) of an own list -/
theorem sg_app {i : Nat} {ds : List D} (hw : Γ.w = some (i, .lst ds)) (h : Ed K te Γ d) (hz : ds.length < 1000) (hn : N ⟨Γ.g, some (i, .lst (ds ++ [d]))⟩) :
    Sg K E Xc (tDrop (tBM K "list" rAppend (tVar i) (tCons te tNil))) Γ N Bk Ct R := fun B S σ H k Z n b c r y x => by
  obtain ⟨a, xs, h1, h2, h3, h4, h5, h6⟩ := k.own _ hw
  refine ⟨_, h1, .inl ⟨rfl, xs, .inl (.inl h5)⟩, ?_⟩
  refine h B S σ H k _ fun v H1 e1 d1 => ?_
  have r1 := h6.mono (hs_mono (S := S) e1)
  exact ⟨a, xs, v, rfl, rfl, e1 _ _ h5, by rw [h6.len]; exact small1000 (by omega), n S σ _ _ hn (ok_upd (k.mono e1) hw h1 (r1.app (.cons d1 .nil)))⟩
theorem sq_app {i : Nat} {ds : List D} (hw : Γ.w = some (i, .lst ds)) (h : Ed K te Γ d) (hz : ds.length < 1000) (h2 : Sg K E Xc u ⟨Γ.g, some (i, .lst (ds ++ [d]))⟩ N Bk Ct R) :
    Sg K E Xc (tSeq (tDrop (tBM K "list" rAppend (tVar i) (tCons te tNil))) u) Γ N Bk Ct R := sg_seq (N1 := fun G => G = _) (sg_app hw h hz rfl) fun G e => e ▸ h2
/-- x.extend(list) of an own list -/
theorem sg_ext {i : Nat} {ds es : List D} (hw : Γ.w = some (i, .lst ds)) (h : Ed K te Γ (.lst es)) (hz : ds.length + es.length ≤ 1000) (hn : N ⟨Γ.g, some (i, .lst (ds ++ es))⟩) :
    Sg K E Xc (tDrop (tBM K "list" rExtend (tVar i) (tCons te tNil))) Γ N Bk Ct R := fun B S σ H k Z n b c r y x => by
  obtain ⟨a, xs, h1, h2, h3, h4, h5, h6⟩ := k.own _ hw
  refine ⟨_, h1, .inl ⟨rfl, xs, .inl (.inl h5)⟩, ?_⟩
  refine h B S σ H k _ fun v H1 e1 d1 => ?_
  have r1 := h6.mono (hs_mono (S := S) e1)
  cases d1 with
  | @lst p zs _ g1 g2 =>
    exact ⟨a, p, xs, zs, rfl, rfl, e1 _ _ h5, (hs_out g1).1, by rw [h6.len, g2.len]; exact Nat.le_of_lt (small1000 hz), n S σ _ _ hn (ok_upd (k.mono e1) hw h1 (r1.app g2))⟩
/-- x[j] = e of an own list -/
theorem sg_setIx {i j : Nat} {ds : List D} (hw : Γ.w = some (i, .lst ds)) (h : Ed K te Γ d) (hb : Ed K tb Γ (.int (j : Int))) (hj : j < ds.length) (hn : N ⟨Γ.g, some (i, .lst (ds.set j d))⟩) :
    Sg K E Xc (tAsg te (gSub (tVar i) tb rSetL)) Γ N Bk Ct R := fun B S σ H k Z n b c r y x => by
  obtain ⟨a, xs, h1, h2, h3, h4, h5, h6⟩ := k.own _ hw
  refine h B S σ H k _ fun v H1 e1 d1 => ?_
  refine ⟨_, h1, hb B S σ H1 (k.mono e1) _ fun w H2 e2 d2 => ?_⟩
  have r1 := h6.mono (hs_mono (S := S) (e1.trans e2))
  have d3 := d1.mono (hs_mono (S := S) e2)
  exact ⟨a, xs, (j : Int), j, rfl, da_int d2, (e1.trans e2) _ _ h5, Evl.ixN_nat (by rw [h6.len]; exact hj), n S σ _ _ hn (ok_upd ((k.mono e1).mono e2) hw h1 (r1.set d3 j))⟩
/-- x.remove(k) of an own list of whole numbers -/
theorem sg_rem {i j : Nat} {ns : List Int} {m : Int} (hw : Γ.w = some (i, .lst (ns.map D.int))) (h : Ed K te Γ (.int m)) (hj : ns[j]? = some m) (h0 : ∀ l : Nat, l < j → ns[l]? ≠ some m) (hn : N ⟨Γ.g, some (i, .lst ((ns.eraseIdx j).map D.int))⟩) :
    Sg K E Xc (tDrop (tBM K "list" rRemI (tVar i) (tCons te tNil))) Γ N Bk Ct R := fun B S σ H k Z n b c r y x => by
  obtain ⟨a, xs, h1, h2, h3, h4, h5, h6⟩ := k.own _ hw
  have ex := all_il h6
  subst ex
  refine ⟨_, h1, .inl ⟨rfl, _, .inl (.inl h5)⟩, ?_⟩
  refine h B S σ H k _ fun v H1 e1 d1 => ?_
  exact ⟨a, ns, m, j, rfl, by rw [da_int d1], e1 _ _ h5, hj, h0, n S σ _ _ hn (ok_upd (k.mono e1) hw h1 (il_all _))⟩
def unh (a : Addr) (S : Hd) : Hd := fun b => S b ∧ b ≠ a
theorem ok_free {B : Bs} {S : Hd} {σ : St} {H : Hp} {i : Nat} {ds : List D} (k : Ok K B S σ Γ H) (hw : Γ.w = some (i, .lst ds)) : ∃ S' : Hd, (∀ a, S' a → S a) ∧ Ok K B S' σ ⟨Γ.g.set i (some (.v (.lst ds))), none⟩ H := by
  obtain ⟨a, xs, h1, h2, h3, h4, h5, h6⟩ := k.own _ hw
  have sb : ∀ b, unh a S b → S b := fun b z => z.1
  refine ⟨unh a S, sb, fun b q => k.inn b q.1, fun b q => ⟨k.sub b q, fun e => h3 (e ▸ q)⟩, k.ent, k.vis.trans (hs_sub sb), ?_, fun j d hj => ?_, fun j ns hj => ?_, fun _ z => nomatch z⟩
  · show σ.length = (Γ.g.set i _).length
    rw [List.length_set, k.len]
  · rcases get_set hj with ⟨rfl, hl, e1⟩ | ⟨n, hj⟩
    · cases e1
      exact ⟨_, h1, .lst (hs_in (fun z => z.2 rfl) h5) (h6.mono (hs_sub sb))⟩
    · obtain ⟨v, g1, g2⟩ := k.val j d hj
      exact ⟨v, g1, g2.mono (hs_sub sb)⟩
  · rcases get_set hj with ⟨rfl, hl, e1⟩ | ⟨n, hj⟩
    · cases e1
    · exact k.scr j ns hj
/-- the own list is kept as it stands from here on -/
theorem sg_free {i : Nat} {ds : List D} (hw : Γ.w = some (i, .lst ds)) (h : Sg K E Xc t ⟨Γ.g.set i (some (.v (.lst ds))), none⟩ N Bk Ct R) : Sg K E Xc t Γ N Bk Ct R := fun B S σ H k Z n b c r y x => by
  obtain ⟨S', _, k'⟩ := ok_free k hw
  exact h B S' σ H k' Z n b c r y x
def Scal : D → Prop
  | .int _ => True
  | .bl _ => True
  | .non => True
  | _ => False
theorem scal_mono {H H' : Hp} {v : V} : ∀ {d : D}, Scal d → Da H v d → Da H' v d
  | .int n, _, h => by
    rw [da_int h]
    exact .int n
  | .bl b, _, h => by
    rw [da_bl h]
    exact .bl b
  | .non, _, h => by
    cases h
    exact .non
/-- an expression that reads an own list and is worth a number or a truth value -/
theorem ed_open {i : Nat} {ds : List D} (hw : Γ.w = some (i, .lst ds)) (h : Ed K te ⟨Γ.g.set i (some (.v (.lst ds))), none⟩ d) (hs : Scal d) : Ed K te Γ d := fun B S σ H k Q q => by
  obtain ⟨S', _, k'⟩ := ok_free k hw
  exact h B S' σ H k' Q fun v H1 e1 d1 => q v H1 e1 (scal_mono hs d1)
theorem et_open {i : Nat} {ds : List D} {b : Bool} (hw : Γ.w = some (i, .lst ds)) (h : Et K tt ⟨Γ.g.set i (some (.v (.lst ds))), none⟩ b) : Et K tt Γ b := fun B S σ H k Q q => by
  obtain ⟨S', _, k'⟩ := ok_free k hw
  exact h B S' σ H k' Q q

/-! ### loops -/
theorem sg_for {ds : List D} (h : Si K wi Γ ds) (I : Nat → Gm → Prop) (h0 : I 0 Γ) (hs : ∀ i d Γ', ds[i]? = some d → I i Γ' → ∃ Γ2 vs, Tg K g Γ' d Γ2 vs ∧ Sg K E Xc t Γ2 (I (i + 1)) N (I (i + 1)) R)
    (hd : ∀ Γ', I ds.length Γ' → N Γ') : Sg K E Xc (tFor wi g t) Γ N Bk Ct R := fun B S σ H k Z n b c r y x => by
  refine h B S σ H k _ fun J H1 e1 w => ?_
  have k1 := k.mono e1
  have kv := k1.view
  have back : ∀ {S' σ' Γ' H'}, Ok K { B with Vw := Hs S H1 } S' σ' Γ' H' → Ok K B S' σ' Γ' H' := fun z => z.viewB k1.vis
  refine for_it w (fun i σ' H' => ∃ S' Γ', I i Γ' ∧ Ok K { B with Vw := Hs S H1 } S' σ' Γ' H') ⟨S, Γ, h0, kv⟩ (fun i σ' H' _ ⟨S', Γ', _, z⟩ => z.vis.trans hs_ex) ?_ ?_
  · rintro i yv σ' H2 H3 hi ⟨S', Γ', hI, z⟩ ⟨y1, d, hd', y2⟩
    obtain ⟨Γ2, vs, tg, sg⟩ := hs i d Γ' hd' hI
    refine tg _ S' σ' H3 yv (z.mono y1) (y2 S' z.inn z.vis) _ fun σ2 k2 _ => ?_
    exact sg _ S' σ2 H3 k2 { Z with nx := _, ct := _, bk := _ } (fun S4 σ4 Γ4 H4 q4 k4 => ⟨S4, Γ4, q4, k4⟩) (fun S4 σ4 Γ4 H4 q4 k4 => n S4 σ4 Γ4 H4 q4 (back k4))
      (fun S4 σ4 Γ4 H4 q4 k4 => ⟨S4, Γ4, q4, k4⟩) r y x
  · rintro σ' H' ⟨S', Γ', hI, z⟩
    exact n S' σ' Γ' H' (hd Γ' hI) (back z)
theorem sg_while (I : Nat → Gm → Prop) (m0 : Nat) (h0 : I m0 Γ) (hs : ∀ m Γ', I m Γ' → ∃ b, Et K tt Γ' b ∧ (b = true → Sg K E Xc t Γ' (fun G => ∃ m', m' < m ∧ I m' G) N (fun G => ∃ m', m' < m ∧ I m' G) R) ∧ (b = false → N Γ')) :
    Sg K E Xc (tWhile tt t) Γ N Bk Ct R := fun B S σ H k Z n b c r y x => by
  refine ⟨fun m σ' H' => ∃ S' Γ', I m Γ' ∧ Ok K B S' σ' Γ' H', ⟨m0, S, Γ, h0, k⟩, ?_⟩
  rintro m σ' H' ⟨S', Γ', hI, z⟩
  obtain ⟨bb, et, h1, h2⟩ := hs m Γ' hI
  refine et B S' σ' H' z _ fun H1 e1 => ?_
  cases bb with
  | false => exact n S' σ' Γ' H1 (h2 rfl) (z.mono e1)
  | true =>
    refine ⟨fun σ2 H2 => ∃ m', m' < m ∧ ∃ S2 Γ2, I m' Γ2 ∧ Ok K B S2 σ2 Γ2 H2, fun σ2 H2 q => q, ?_⟩
    exact h1 rfl B S' σ' H1 (z.mono e1) { Z with nx := _, ct := _, bk := _ } (fun S4 σ4 Γ4 H4 ⟨m', l, q⟩ k4 => ⟨m', l, S4, Γ4, q, k4⟩) (fun S4 σ4 Γ4 H4 q4 k4 => n S4 σ4 Γ4 H4 q4 k4) (fun S4 σ4 Γ4 H4 ⟨m', l, q⟩ k4 => ⟨m', l, S4, Γ4, q, k4⟩) r y x
/-- a raise of an own class -/
theorem sg_raise {C : Addr} (h : Xc C) : Sg K E Xc (tRaise E (.ref C)) Γ N Bk Ct R := fun B S σ H k Z n b c r y x => x C H h k.ent
end

/-! ### promises -/
/-- with arguments that stand for args a, where pre a, it hands back what stands for one of res a; nothing that stood changes -/
def spG {α : Type} (args : α → List D) (pre : α → Prop) (res : α → D → Prop) : Sp := fun vs H Q _ => ∃ (a : α) (S : Hd), (∀ b, S b → ∃ o, H b = some o) ∧ DaAll (Hs S H) vs (args a) ∧ pre a ∧
  ∀ v r H', res a r → Ex H H' → Da (Hs S H') v r → Q v H'
/-- the same, or it raises one of bad -/
def spX {α : Type} (args : α → List D) (pre : α → Prop) (res : α → D → Prop) (bad : List D → Addr → Prop) : Sp := fun vs H Q E => spG args pre res vs H Q E ∨
  ∃ (ds : List D) (S : Hd) (C : Addr), (∀ b, S b → ∃ o, H b = some o) ∧ DaAll (Hs S H) vs ds ∧ bad ds C ∧ ∀ H', Ex H H' → E (.ref C) none H'
/-- the slots at a def's entry -/
def ini (n : Nat) (ds : List D) : Gm := ⟨ds.map (fun d => some (.v d)) ++ List.replicate (n - ds.length) none, none⟩
theorem ini_at {n : Nat} {ds : List D} {i : Nat} {d : D} (h : (ini n ds).g[i]? = some (some (.v d))) : ds[i]? = some d := by
  unfold ini at h
  by_cases hi : i < ds.length
  · rw [List.getElem?_append_left (by rw [List.length_map]; exact hi), List.getElem?_map] at h
    cases e : ds[i]? with
    | none =>
      rw [e] at h
      cases h
    | some x =>
      rw [e] at h
      injection h with h
      injection h with h
      injection h with h
      rw [h]
  · rw [List.getElem?_append_right (by rw [List.length_map]; omega), List.length_map] at h
    have z := List.getElem?_replicate (n := n - ds.length) (a := (none : Option Slo)) (i := i - ds.length)
    rw [z] at h
    split at h <;> cases h
theorem ini_ns {n : Nat} {ds : List D} {i : Nat} {ns : List Int} (h : (ini n ds).g[i]? = some (some (.s ns))) : False := by
  unfold ini at h
  by_cases hi : i < ds.length
  · rw [List.getElem?_append_left (by rw [List.length_map]; exact hi), List.getElem?_map] at h
    cases e : ds[i]? with
    | none =>
      rw [e] at h
      cases h
    | some x =>
      rw [e] at h
      cases h
  · rw [List.getElem?_append_right (by rw [List.length_map]; omega), List.length_map] at h
    have z := List.getElem?_replicate (n := n - ds.length) (a := (none : Option Slo)) (i := i - ds.length)
    rw [z] at h
    split at h <;> cases h
theorem ok_ini {K : PySem.W.Frag} {S : Hd} {H : Hp} {N : List Str} {vs : List V} {ds : List D} (inn : ∀ b, S b → ∃ o, H b = some o) (r : DaAll (Hs S H) vs ds) : Ok K ⟨H, Hs S H, S⟩ S (L2.start N vs) (ini N.length ds) H where
  inn := inn
  sub := fun _ h => h
  ent := Ex.refl _
  vis := Ex.refl _
  len := by
    unfold L2.start ini
    simp only [List.length_append, List.length_map, List.length_replicate, r.len]
  val := fun i d h => by
    obtain ⟨v, h1, h2⟩ := r.get (ini_at h)
    refine ⟨v, ?_, h2⟩
    unfold L2.start
    have hl := (List.getElem?_eq_some_iff.mp h1).1
    rw [List.getElem?_append_left (by rw [List.length_map]; exact hl), List.getElem?_map, h1]
    rfl
  scr := fun i ns h => (ini_ns h).elim
  own := fun _ h => nomatch h
/-- a def's body by the judgement over data -/
theorem run_def {K : PySem.W.Frag} {E : XK} {Xc : Addr → Prop} {S : Hd} {H : Hp} {N : List Str} {vs : List V} {ds : List D} {t : TS} {Q : VK} {R : Rt} (inn : ∀ b, S b → ∃ o, H b = some o) (r : DaAll (Hs S H) vs ds)
    (h : Sg K E Xc t (ini N.length ds) (fun _ => R.p .non) (fun _ => False) (fun _ => False) R) (q : ∀ v d H', R.p d → Ex H H' → Da (Hs S H') v d → Q v H') (x : ∀ C H', Xc C → Ex H H' → E (.ref C) none H')
    (y : ∀ a C ds m H', R.n C ds m → Ex H H' → NewB H S H' a C ds m → Q (.ref a) H' := by exact fun _ _ _ _ _ z => z.elim) :
    t { nx := fun _ H' => Q .non H', rt := Q } (L2.start N vs) H :=
  h _ S _ H (ok_ini inn r) _ (fun S' σ' Γ' H' n k => q _ _ H' n k.ent .non) (fun _ _ _ _ z _ => z.elim) (fun _ _ _ _ z _ => z.elim) (fun v d H' rr e1 d1 => q v d H' rr e1 d1) y (fun C H' c e1 => x C H' c e1)
/-- the same where no new object is handed back -/
theorem run_defP {K : PySem.W.Frag} {E : XK} {Xc : Addr → Prop} {S : Hd} {H : Hp} {N : List Str} {vs : List V} {ds : List D} {t : TS} {Q : VK} {R : D → Prop} (inn : ∀ b, S b → ∃ o, H b = some o) (r : DaAll (Hs S H) vs ds)
    (h : Sg K E Xc t (ini N.length ds) (fun _ => R .non) (fun _ => False) (fun _ => False) (⟨R, fun _ _ _ => False⟩ : Rt)) (q : ∀ v d H', R d → Ex H H' → Da (Hs S H') v d → Q v H') (x : ∀ C H', Xc C → Ex H H' → E (.ref C) none H') :
    t { nx := fun _ H' => Q .non H', rt := Q } (L2.start N vs) H := run_def (R := (⟨R, fun _ _ _ => False⟩ : Rt)) inn r h q x
section
variable {K : PySem.W.Frag} {E : XK} {Γ : Gm} {ta : TA} {to : TE} {α : Type} {args : α → List D} {pre : α → Prop} {res : α → D → Prop} {bad : List D → Addr → Prop}
theorem eg_call (a : α) (h : Ea K ta Γ (args a)) (hp : pre a) : Eg K (tCall (spG args pre res) [] E ta) Γ (res a) := fun B S σ H k Q q =>
  h B S σ H k _ fun vs H1 e1 d1 => ⟨a, S, (k.mono e1).inn, by rw [List.append_nil]; exact d1, hp, fun v r H' p e2 d2 => q v r H' p (e1.trans e2) d2⟩
theorem eg_callX (a : α) (h : Ea K ta Γ (args a)) (hp : pre a) : Eg K (tCall (spX args pre res bad) [] E ta) Γ (res a) := fun B S σ H k Q q =>
  h B S σ H k _ fun vs H1 e1 d1 => .inl ⟨a, S, (k.mono e1).inn, by rw [List.append_nil]; exact d1, hp, fun v r H' p e2 d2 => q v r H' p (e1.trans e2) d2⟩
/-- a call that may raise, as a statement -/
theorem sg_callX {Xc : Addr → Prop} {N Bk Ct : Gm → Prop} {R : Rt} {ds : List D} (h : Ea K ta Γ ds) (hb : (∃ a, ds = args a ∧ pre a ∧ N Γ) ∨ ∃ C, bad ds C ∧ Xc C) : Sg K E Xc (tDrop (tCall (spX args pre res bad) [] E ta)) Γ N Bk Ct R := fun B S σ H k Z n b c r y x =>
  h B S σ H k _ fun vs H1 e1 d1 => by
    rw [List.append_nil]
    rcases hb with ⟨a, rfl, hp, hn⟩ | ⟨C, hc, hx⟩
    · exact .inl ⟨a, S, (k.mono e1).inn, d1, hp, fun v r H' p e2 d2 => n S σ Γ H' hn ((k.mono e1).mono e2)⟩
    · exact .inr ⟨ds, S, C, (k.mono e1).inn, d1, hc, fun H' e2 => x C H' hx ((k.mono e1).ent.trans e2)⟩
theorem eg_methB {C : Addr} {bs m : D} {mn : Str} (a : α) (ho : Ed K to Γ (.bts C bs m)) (hm : ∀ x y : V, List.lookup mn [(("boats" : Str), x), ("mark", y)] = none) {ds : List D} (h : Ea K ta Γ ds) (ha : args a = .bts C bs m :: ds) (hp : pre a) :
    Eg K (tMeth C mn (spG args pre res) [] E to ta) Γ (res a) := fun B S σ H k Q q =>
  ho B S σ H k _ fun v H1 e1 d1 => by
    have d0 := d1
    cases d1 with
    | bts h1 r1 r2 =>
      refine ⟨_, _, _, rfl, (hs_out h1).1, hm _ _, ?_⟩
      refine h B S σ H1 (k.mono e1) _ fun vs H2 e2 d2 => ⟨a, S, ((k.mono e1).mono e2).inn, ?_, hp, fun v r H' p e3 d3 => q v r H' p ((e1.trans e2).trans e3) d3⟩
      rw [List.append_nil, ha]
      exact .cons (d0.mono (hs_mono e2)) d2
theorem eg_methH {C : Addr} {pp : D} {mn : Str} (a : α) (ho : Ed K to Γ (.hvy C pp)) (hm : ∀ x : V, List.lookup mn [(("person" : Str), x)] = none) {ds : List D} (h : Ea K ta Γ ds) (ha : args a = .hvy C pp :: ds) (hp : pre a) :
    Eg K (tMeth C mn (spG args pre res) [] E to ta) Γ (res a) := fun B S σ H k Q q =>
  ho B S σ H k _ fun v H1 e1 d1 => by
    have d0 := d1
    cases d1 with
    | hvy h1 r1 =>
      refine ⟨_, _, _, rfl, (hs_out h1).1, hm _, ?_⟩
      refine h B S σ H1 (k.mono e1) _ fun vs H2 e2 d2 => ⟨a, S, ((k.mono e1).mono e2).inn, ?_, hp, fun v r H' p e3 d3 => q v r H' p ((e1.trans e2).trans e3) d3⟩
      rw [List.append_nil, ha]
      exact .cons (d0.mono (hs_mono e2)) d2
end
end Ly
namespace Ly
open PySem L2
theorem kN {X : Cx} : X.nox.K = X.K := rfl
theorem kC {CX : CXT} {P : Program} {w : World} {K : PySem.W.Frag} {mg : Str → Option Value} {base : Heap} {N : List Str} {qual : Str} {scope : Scope} {f : Addr} {cd : Value} {A : Around} {outer : List Env} {s : Shared} {H : Hp} {E : XK} :
    (cxOf CX P w K mg base N qual scope f cd A outer s H E).K = K := rfl
section
variable {K : PySem.W.Frag} {Γ : Gm} {te : TE} {tt : TT} {ta : TA} {to : TO} {d : D} {ds : List D} {b : Bool} {o : Option Int}
theorem id_d (h : Ed K te Γ d) : Ed K te Γ d := h
theorem id_n (h : En K te Γ ds) : En K te Γ ds := h
theorem id_t (h : Et K tt Γ b) : Et K tt Γ b := h
theorem id_a (h : Ea K ta Γ ds) : Ea K ta Γ ds := h
theorem id_o (h : Eo K to Γ o) : Eo K to Γ o := h
theorem et_yes : Et K tYes Γ true := fun B S σ H k Q q => q H (Evl.Ex.refl H)
/-- comprehensions over whole numbers, a name as the target -/
theorem en_lcI {wi : TI} {j : Nat} {ns : List Int} {f : Int → Bool} {e : Int → D} (h : Si K wi Γ (ns.map D.int)) (hz : ns.length ≤ 1000) (hw : ∀ x, Γ.w = some x → x.1 ∉ [j])
    (ht : ∀ n, n ∈ ns → Et K tt ⟨(wipeG Γ.g [j]).set j (some (.v (.int n))), Γ.w⟩ (f n)) (he : ∀ n, n ∈ ns → f n = true → Ed K te ⟨(wipeG Γ.g [j]).set j (some (.v (.int n))), Γ.w⟩ (e n)) :
    En K (tLc wi (gName j) tt te [j]) Γ ((ns.filter f).map e) :=
  en_lc h rfl hz hw (fun a _ => tg_name (Γ := ⟨wipeG Γ.g [j], Γ.w⟩) fun x hx z => hw x hx (by rw [z]; exact List.mem_cons_self ..)) ht he
/-- over anything, a name as the target -/
theorem en_lcA {α : Type} {emb : α → D} {wi : TI} {j : Nat} {xs : List α} {f : α → Bool} {e : α → D} (h : Si K wi Γ (xs.map emb)) (hz : xs.length ≤ 1000) (hw : ∀ x, Γ.w = some x → x.1 ∉ [j])
    (ht : ∀ n, n ∈ xs → Et K tt ⟨(wipeG Γ.g [j]).set j (some (.v (emb n))), Γ.w⟩ (f n)) (he : ∀ n, n ∈ xs → f n = true → Ed K te ⟨(wipeG Γ.g [j]).set j (some (.v (emb n))), Γ.w⟩ (e n)) :
    En K (tLc wi (gName j) tt te [j]) Γ ((xs.filter f).map e) :=
  en_lc h rfl hz hw (fun a _ => tg_name (Γ := ⟨wipeG Γ.g [j], Γ.w⟩) fun x hx z => hw x hx (by rw [z]; exact List.mem_cons_self ..)) ht he
/-- over pairs, two names as the target -/
theorem en_lcP {α : Type} {e1 e2 : α → D} {wi : TI} {i j : Nat} {xs : List α} {f : α → Bool} {e : α → D} (h : Si K wi Γ (xs.map fun a => .tup [e1 a, e2 a])) (hz : xs.length ≤ 1000) (hw : ∀ x, Γ.w = some x → x.1 ∉ [i, j])
    (ht : ∀ n, n ∈ xs → Et K tt ⟨((wipeG Γ.g [i, j]).set i (some (.v (e1 n)))).set j (some (.v (e2 n))), Γ.w⟩ (f n)) (he : ∀ n, n ∈ xs → f n = true → Ed K te ⟨((wipeG Γ.g [i, j]).set i (some (.v (e1 n)))).set j (some (.v (e2 n))), Γ.w⟩ (e n)) :
    En K (tLc wi (gTup K 2 (gCons (gName i) (gCons (gName j) gNil))) tt te [i, j]) Γ ((xs.filter f).map e) :=
  en_lc h rfl hz hw (fun a _ => tg_pair (Γ := ⟨wipeG Γ.g [i, j], Γ.w⟩) fun x hx => ⟨fun z => hw x hx (by rw [z]; exact List.mem_cons_self ..), fun z => hw x hx (by rw [z]; exact List.mem_cons_of_mem _ (List.mem_cons_self ..))⟩) ht he
theorem filter_yes {α : Type} (xs : List α) : xs.filter (fun _ => true) = xs := List.filter_eq_self.mpr fun _ _ => rfl
end
end Ly
namespace Ly
open PySem L2
section
variable {K : PySem.W.Frag} {Γ : Gm} {te ta : TE} {tt : TT} {d : D} {ds : List D} {b : Bool}
theorem En.toI {ns : List Int} (h : En K te Γ (ns.map D.int)) : Ed K te Γ (il ns) := h.toEd
theorem En.toB {bs : List (List Int)} (h : En K te Γ (bs.map itup)) : Ed K te Γ (btl bs) := h.toEd
theorem en_lcIy {wi : TI} {j : Nat} {ns : List Int} {e : Int → D} (h : Si K wi Γ (ns.map D.int)) (hz : ns.length ≤ 1000) (hw : ∀ x, Γ.w = some x → x.1 ∉ [j])
    (he : ∀ n, n ∈ ns → Ed K te ⟨(wipeG Γ.g [j]).set j (some (.v (.int n))), Γ.w⟩ (e n)) : En K (tLc wi (gName j) tYes te [j]) Γ (ns.map e) :=
  (en_lcI (f := fun _ => true) h hz hw (fun _ _ => et_yes) fun n hn _ => he n hn).is (by rw [filter_yes])
theorem en_lcAy {α : Type} {emb : α → D} {wi : TI} {j : Nat} {xs : List α} {e : α → D} (h : Si K wi Γ (xs.map emb)) (hz : xs.length ≤ 1000) (hw : ∀ x, Γ.w = some x → x.1 ∉ [j])
    (he : ∀ n, n ∈ xs → Ed K te ⟨(wipeG Γ.g [j]).set j (some (.v (emb n))), Γ.w⟩ (e n)) : En K (tLc wi (gName j) tYes te [j]) Γ (xs.map e) :=
  (en_lcA (f := fun _ => true) h hz hw (fun _ _ => et_yes) fun n hn _ => he n hn).is (by rw [filter_yes])
theorem en_lcPy {α : Type} {e1 e2 : α → D} {wi : TI} {i j : Nat} {xs : List α} {e : α → D} (h : Si K wi Γ (xs.map fun a => .tup [e1 a, e2 a])) (hz : xs.length ≤ 1000) (hw : ∀ x, Γ.w = some x → x.1 ∉ [i, j])
    (he : ∀ n, n ∈ xs → Ed K te ⟨((wipeG Γ.g [i, j]).set i (some (.v (e1 n)))).set j (some (.v (e2 n))), Γ.w⟩ (e n)) : En K (tLc wi (gTup K 2 (gCons (gName i) (gCons (gName j) gNil))) tYes te [i, j]) Γ (xs.map e) :=
  (en_lcP (f := fun _ => true) h hz hw (fun _ _ => et_yes) fun n hn _ => he n hn).is (by rw [filter_yes])
theorem si_listI {ns : List Int} (h : Ed K ta Γ (il ns)) : Si K (iList K ta) Γ (ns.map D.int) := si_list h
theorem si_tupI {ns : List Int} (h : Ed K ta Γ (itup ns)) : Si K (iTup K ta) Γ (ns.map D.int) := si_tup h
theorem si_listB {bs : List (List Int)} (h : Ed K ta Γ (btl bs)) : Si K (iList K ta) Γ (bs.map itup) := si_list h
/-- a result of a known form -/
theorem Eg.toEdI {n : Int} (h : Eg K te Γ fun d => d = .int n) : Ed K te Γ (.int n) := h.toEd
end
end Ly

/-! The layer, fifth part: built-ins that the hand layer lacks: set of a list of ints, sorted of a set of any size, min, max, sorted, extend of a tuple, slices with a step. -/
namespace Ly
open PySem L2 PyProof.Rows

/-! ### l.extend(t), t a tuple -/
section
variable {P : Program} {w : World} {A : Around} {E : Value → Shared → Prop} {s : Shared}
theorem extend_by_tup {l t : Addr} {xs ys : List Value} {n : Nat} {Q : Value → Shared → Prop} (hl : s.heap.get? l = some { cls := .type "list", data := .seq xs.toArray n }) (ht : IsTup s.heap t ys.toArray)
    (hz : xs.length + ys.length ≤ sizeLine) (h : Q .none { s with heap := s.heap.update l (Obj.mapSeq (· ++ ys.toArray)) }) : wpAny (model P w) A (call (.builtin "list.extend") [.ref l, .ref t]) Q E s := by
  obtain ⟨o, ho, hc, m, hd⟩ := ht
  refine wpAny_call_entry PySem.F.slot_list_extend ⟨_, hl, rfl⟩ PySem.F.entry_list_extend ?_ (PySem.F.args_list_extend_2 _ _)
  show wpAny _ _ (Builtin.List.listExtendWith (.ref l) (.ref t) .none) _ _ s
  unfold Builtin.List.listExtendWith
  refine wpAny_bind (wpAny_typeOf ⟨o, ho, hc⟩ ?_)
  have yes : (Builtin.List.listSameRef (.ref l) (.ref t) || Value.type "tuple" == Value.type "list" || Value.type "tuple" == Value.type "tuple") = true := by simp
  rw [if_pos yes]
  refine wpAny_bind (listItems_at ho hd ?_)
  refine wpAny_bind (listItems_at hl rfl ?_)
  have short : ¬ (!xs.toArray.isEmpty && Builtin.List.listTooLong (xs.toArray.size + ys.toArray.size)) = true := by
    rw [notLongL (by rw [List.size_toArray, List.size_toArray]; exact hz), Bool.and_false]
    exact Bool.false_ne_true
  rw [if_neg short]
  refine wpAny_bind (listUpdate_at hl rfl ?_ (by rw [List.size_toArray]; omega) (by rw [Array.size_append, List.size_toArray, List.size_toArray]; omega))
  exact wpAny_pure ⟨_, rfl, h⟩
end
section
variable {X : Cx}
def rExtT (K : PySem.W.Frag) : V → List V → Hp → VK → Prop := fun x vs H Q => ∃ l b xs zs, x = .ref l ∧ vs = [.ref b] ∧ H l = some (.lst xs) ∧ SqT K H b zs ∧ xs.length + zs.length ≤ sizeLine ∧ Q .non (upd H l (.lst (xs ++ zs)))
theorem mt_extendT : MtM X "list.extend" (rExtT X.K) := by
  intro pins s σ H x vs v us Q I rx rv h
  obtain ⟨l, b, xs, zs, rfl, rfl, hH, hB, hz, q⟩ := h
  cases rx
  obtain ⟨u, rfl, ru⟩ := rv.one
  cases ru
  obtain ⟨z, its, n, r, hl, e⟩ := I.lstM hH
  obtain ⟨its2, r2, tp, z2⟩ := I.tuple hB
  have hl2 := r2.length
  refine extend_by_tup e tp (by omega) ?_
  refine ⟨.non, _, I.lset (its' := its ++ its2) (t' := s.toks) hH e (by simp) (r.append r2) ?_, rfl, q⟩
  rw [List.length_append]
  omega
end

/-! ### min, max of a tuple of ints -/
section
variable {P : Program} {w : World} {A : Around} {E : Value → Shared → Prop} {s : Shared}
theorem tup_of {t : Addr} {xs : Array Value} (h : IsTup s.heap t xs) : s.heap.IsTuple t xs := h
theorem best_tup {op : Bool} {t : Addr} {its : List Value} {ns : List Int} {Q : Value → Shared → Prop} (hh : A.handled = none) (ht : IsTup s.heap t its.toArray) (hi : IntsAre its ns) (hne : 0 < ns.length)
    (h : ∀ h' tk m t', (∀ b o, s.heap.get? b = some o → h'.get? b = some o) → m ∈ ns → (∀ a, a ∈ ns → if op then a ≤ m else m ≤ a) → Q (.int m t') { s with heap := h', toks := tk }) :
    wpAny (model P w) A (call (.builtin (if op then "max" else "min")) [.ref t]) Q E s := by
  obtain ⟨xs, e⟩ := hi.allInts.items
  have hn : numsOf (intItems xs).toList = ns := by rw [← e]; exact hi.numsOf
  rw [nums_intItems] at hn
  subst hn
  rw [e] at ht
  have hsz : 0 < xs.size := by simpa using hne
  have tl : s.heap.IsTuple t (intItems xs) := ht
  have hlt : t < s.heap.objs.size := by
    obtain ⟨o, ho, _⟩ := tl
    exact Heap.lt_size ho
  have hst : ∀ o : Obj, (s.heap.push o).IsTuple t (intItems xs) := fun o => tl.push o
  have fp2 : ∀ o : Obj, ∀ b ∈ [s.heap.objs.size, t], b < (s.heap.push o).objs.size := fun o b hb => by
    rw [Heap.size_push]
    rcases List.mem_cons.mp hb with z | z
    · rw [z]
      exact Nat.lt_succ_self _
    · rw [List.mem_singleton.mp z]
      exact Nat.lt_succ_of_lt hlt
  have old : ∀ (o : Obj) (h' : Heap), (∀ b u, b ∉ [s.heap.objs.size] → (s.heap.push o).get? b = some u → h'.get? b = some u) → ∀ b u, s.heap.get? b = some u → h'.get? b = some u := fun o h' k b u e =>
    k b u (fun m => Nat.ne_of_lt (Heap.lt_size e) (List.mem_singleton.mp m)) (Heap.get?_push_of_some _ e)
  cases op with
  | true =>
    refine call_max_walk (wpAny_pyIter_tuple tl ?_)
    refine ⟨_, _, _, _, _, _, _, rfl, Walks.tuple (A := A.in1) hh _ t (Nat.ne_of_lt hlt) (intItems xs), ⟨⟨_, Heap.get?_push_size _ rfl, rfl, rfl⟩, hst _⟩, fp2 _, by simpa [intItems] using hsz, CmpOf.ints_gt (numAt xs) (fun _ _ => intItems_at), fun v h' tk hP hk => ?_⟩
    obtain ⟨b1, b2⟩ := argBest_gt (numAt xs) (xs.size - 1)
    have hv : (intItems xs)[argBest (fun i j => decide (numAt xs i > numAt xs j)) (xs.size - 1)]? = some v := by simpa [intItems] using hP
    obtain ⟨t', rfl⟩ := intItems_at hv
    refine h h' tk _ t' (old _ _ hk) ?_ fun a ha => ?_
    · rw [numAt_eq]
      exact PySem.getD_mem (by rw [List.length_map, Array.length_toList]; omega)
    · obtain ⟨j, hj, rfl⟩ := mem_getD ha
      rw [List.length_map, Array.length_toList] at hj
      rw [if_pos rfl, ← numAt_eq]
      exact b2 j (by omega)
  | false =>
    refine call_min_walk (wpAny_pyIter_tuple tl ?_)
    refine ⟨_, _, _, _, _, _, _, rfl, Walks.tuple (A := A.in1) hh _ t (Nat.ne_of_lt hlt) (intItems xs), ⟨⟨_, Heap.get?_push_size _ rfl, rfl, rfl⟩, hst _⟩, fp2 _, by simpa [intItems] using hsz, CmpOf.ints_lt (numAt xs) (fun _ _ => intItems_at), fun v h' tk hP hk => ?_⟩
    obtain ⟨b1, b2⟩ := argBest_lt (numAt xs) (xs.size - 1)
    have hv : (intItems xs)[argBest (fun i j => decide (numAt xs i < numAt xs j)) (xs.size - 1)]? = some v := by simpa [intItems] using hP
    obtain ⟨t', rfl⟩ := intItems_at hv
    refine h h' tk _ t' (old _ _ hk) ?_ fun a ha => ?_
    · rw [numAt_eq]
      exact PySem.getD_mem (by rw [List.length_map, Array.length_toList]; omega)
    · obtain ⟨j, hj, rfl⟩ := mem_getD ha
      rw [List.length_map, Array.length_toList] at hj
      rw [if_neg Bool.false_ne_true, ← numAt_eq]
      exact b2 j (by omega)
end
section
variable {X : Cx}
def rBest (K : PySem.W.Frag) (op : Bool) : List V → Hp → VK → Prop := fun vs H Q => ∃ (a : Addr) (ns : List Int), vs = [V.ref a] ∧ SqT K H a (ns.map V.int) ∧ 0 < ns.length ∧ ∀ m, m ∈ ns → (∀ y, y ∈ ns → if op then y ≤ m else m ≤ y) → Q (.int m) H
theorem cr_best {op : Bool} (hc : X.calm = true) : CallR X (.builtin (if op then "max" else "min")) (rBest X.K op) := by
  intro pins s σ H vs us Q I r h
  obtain ⟨a, ns, rfl, hs, hne, q⟩ := h
  obtain ⟨its, rv, hl, _⟩ := I.tuple hs
  rw [Vals.ref1 r]
  exact best_tup (I.ok.hd hc) hl rv.ints hne fun h' tk m t' hk h1 h2 => ⟨.int _, H, I.kept hk, ⟨_, rfl⟩, q m h1 h2⟩
theorem cr_maxT (hc : X.calm = true) : CallR X (.builtin "max") (rBest X.K true) := cr_best (op := true) hc
theorem cr_minT (hc : X.calm = true) : CallR X (.builtin "min") (rBest X.K false) := cr_best (op := false) hc
end

/-! ### sorted of a tuple of ints -/
section
variable {P : Program} {w : World} {A : Around} {E : Value → Shared → Prop} {s : Shared}
theorem collect_tup {t : Addr} {vs : List Value} {Q : List Value → Shared → Prop} (ht : IsTup s.heap t vs.toArray) (hz : vs.length ≤ sizeLine)
    (h : Q vs { s with heap := (s.heap.push (seqObj "list" #[] 0)).update s.heap.objs.size (Obj.mapSeq (· ++ vs.toArray)) }) : wpAny (model P w) A (collect (.ref t)) Q E s := by
  obtain ⟨o, ho, hc, n, hd⟩ := ht
  have ho2 : (s.heap.push (seqObj "list" #[] 0)).get? t = some o := Heap.get?_push_of_some _ ho
  have hnew : (s.heap.push (seqObj "list" #[] 0)).get? s.heap.objs.size = some (seqObj "list" #[] 0) := Heap.get?_push_size _ rfl
  unfold collect
  refine wpAny_bind (wpAny_runValue (codeAny_builtin entry_proto_collect' ?_))
  show wpAny _ _ (do again (.builtin "list.__iadd__" ⟨[← newList [], .ref t], []⟩)) _ _ s
  refine wpAny_bind (wpAny_newList (wpAny_pure ⟨Code.quiet_builtin _ (by decide +kernel), codeAny_builtin entry_list_iadd' ?_⟩))
  show wpAny _ _ (Builtin.List.listExtendWith (.ref s.heap.objs.size) (.ref t) (.ref s.heap.objs.size)) _ _ { s with heap := s.heap.push (seqObj "list" #[] 0) }
  unfold Builtin.List.listExtendWith
  refine wpAny_bind (wpAny_typeOf (T := "tuple") ⟨o, ho2, hc⟩ ?_)
  rw [if_pos (by simp)]
  refine wpAny_bind (listItems_at ho2 hd ?_)
  refine wpAny_bind (listItems_at hnew rfl ?_)
  rw [if_neg (by simp)]
  refine wpAny_bind (listUpdate_at hnew rfl ?_ (Nat.zero_le _) (by show (#[] ++ vs.toArray).size ≤ sizeLine + 1; simp only [Array.size_append, List.size_toArray, List.length_nil]; omega))
  refine wpAny_pure ?_
  refine wpAny_bind (wpAny_load (get?_update_seq hnew _) ?_)
  show wpAny _ _ (pure ((#[] : Array Value) ++ vs.toArray).toList) Q E _
  have e : ((#[] : Array Value) ++ vs.toArray).toList = vs := by simp
  rw [e]
  exact wpAny_pure h
theorem sorted_tup {t : Addr} {vs : List Value} {ns : List Int} {Q : Value → Shared → Prop} (ht : IsTup s.heap t vs.toArray) (hi : IntsAre vs ns) (hz : vs.length ≤ sizeLine)
    (h : ∀ out : List Value, SrtO.Srtd SrtO.ltIv out → SrtO.Stb SrtO.ltIv out vs → Q (.ref (s.heap.objs.size + 1)) { s with heap := sortedAll s.heap vs out.toArray }) :
    wpAny (model P w) A (call (.builtin "sorted") [.ref t]) Q E s := by
  refine Calls.call_function_entry kind_sorted plain_sorted entry_sorted (args_sorted1 _) ?_
  unfold Builtin.«sorted»
  refine wpAny_bind (m := checkCount "sorted" 1 1 _) (wpAny_pure ?_)
  refine wpAny_bind (collect_tup ht hz ?_)
  refine wpAny_bind (wpAny_newList ?_ hz)
  have size1 : ((s.heap.push (seqObj "list" #[] 0)).update s.heap.objs.size (Obj.mapSeq (· ++ vs.toArray))).objs.size = s.heap.objs.size + 1 := by
    rw [Heap.size_update, size_push']
  have there : (((s.heap.push (seqObj "list" #[] 0)).update s.heap.objs.size (Obj.mapSeq (· ++ vs.toArray))).push (seqObj "list" vs.toArray 0)).get? (s.heap.objs.size + 1) = some (seqObj "list" vs.toArray 0) := by
    rw [← size1]
    exact Heap.get?_push_size _ rfl
  show wpAny _ _ _ _ _ { s with heap := ((s.heap.push (seqObj "list" #[] 0)).update s.heap.objs.size (Obj.mapSeq (· ++ vs.toArray))).push (seqObj "list" vs.toArray 0) }
  rw [size1]
  refine wpAny_bind (wpAny_holding (wpAny_call_entry slot_list_sort ⟨_, there, rfl⟩ entry_list_sort (SrtO.list_sort_ord SrtO.swo_int there hz (fun h2 => SrtO.ints_sortable hi h2) fun out hs hb => ⟨_, rfl, ?_⟩) (args_list_sort _)))
  exact wpAny_pure ⟨_, rfl, h out hs hb⟩
end
section
variable {X : Cx}
def rSortTp (K : PySem.W.Frag) : List V → Hp → VK → Prop := fun vs H Q => ∃ (a : Addr) (ns : List Int), vs = [V.ref a] ∧ SqT K H a (ns.map V.int) ∧ ∀ (ns' : List Int) (p : Addr), ns'.Perm ns → ns'.Pairwise (· ≤ ·) → H p = none → Q (.ref p) (upd H p (.lst (ns'.map V.int)))
theorem cr_sortedTp : CallR X (.builtin "sorted") (rSortTp X.K) := by
  intro pins s σ H vs us Q I r h
  obtain ⟨a, ns, rfl, hs, q⟩ := h
  obtain ⟨its, rv, hl, hz⟩ := I.tuple hs
  rw [Vals.ref1 r]
  have hi := rv.ints
  refine sorted_tup hl hi (by rw [← rv.length]; exact hz) fun out h1 h2 => ?_
  obtain ⟨k1, k2, k3⟩ := SrtO.ints_out hi h1 h2
  obtain ⟨ep, at1⟩ := PyProof.Rows.sortedAll_at s.heap its out.toArray
  have len1 : ((out.map SrtO.iv).map V.int).length ≤ sizeLine := by
    rw [List.length_map, k2.length_eq]
    rw [List.length_map] at hz
    exact hz
  exact ⟨.ref _, upd H (s.heap.objs.size + 1) (.lst ((out.map SrtO.iv).map V.int)), I.laid (t' := s.toks) (fun _ _ => PyProof.Rows.sortedAll_old) (Nat.le_succ _) ⟨len1, out, ep, vals_of_ints k1, at1⟩, rfl, q _ _ k2 k3 (I.hok.fresh (Nat.le_succ _))⟩
end

/-! ### slices with a step -/
def pickV (xs : List V) (lo hi st : Option Int) : List V := (sliceRange (sliceBounds lo hi st xs.length).1 (sliceBounds lo hi st xs.length).2.1 (sliceBounds lo hi st xs.length).2.2).filterMap (xs[·]?)
theorem vals_pick {xs : List V} {its : List Value} (r : Vals xs its) : ∀ l : List Nat, Vals (l.filterMap (xs[·]?)) (l.filterMap (its.toArray[·]?))
  | [] => .nil
  | i :: l => by
    rw [List.filterMap_cons, List.filterMap_cons]
    cases e : xs[i]? with
    | none =>
      have e2 := Vals.none_of r e
      have e3 : its.toArray[i]? = none := by rw [List.getElem?_toArray]; exact e2
      rw [e3]
      exact vals_pick r l
    | some x =>
      obtain ⟨u, e2, ru⟩ := Vals.get r e
      have e3 : its.toArray[i]? = some u := by rw [List.getElem?_toArray]; exact e2
      rw [e3]
      exact .cons ru (vals_pick r l)
/-- xs[a:b:c] of a list -/
def tStep (K : PySem.W.Frag) (te : TE) (tl th ts : TO) : TE := fun σ H Q => te σ H fun x H1 => tl σ H1 fun lo H2 => th σ H2 fun hi H3 => ts σ H3 fun st H4 => ∃ a xs, x = .ref a ∧ SqL K H4 a xs ∧ st ≠ some 0 ∧ (pickV xs lo hi st).length ≤ sizeLine ∧
  ∀ p, H4 p = none → Q (.ref p) (upd H4 p (.lst (pickV xs lo hi st)))
theorem pe_step {X : Cx} {e st : Expr} {lo hi : Option Expr} {te : TE} {tl th ts : TO} {p3 pos : Pos} (he : PE X e te) (hl : PO X lo tl) (hh : PO X hi th) (hs : PO X (some st) ts) :
    PE X (.Subscript e (.Slice lo hi (some st) p3) pos) (tStep X.K te tl th ts) := by
  refine ⟨fun pins s σ H Q I h => ?_⟩
  refine Subscript_ (thn (he.run pins s σ H _ I h) fun v s1 ⟨x, H1, I1, r1, q1⟩ => ?_)
  refine wpAny_Slice (thn (hl.run pins s1 σ H1 _ I1 q1) fun vl s2 ⟨l, H2, I2, pl, q2⟩ => thn (hh.run pins s2 σ H2 _ I2 q2) fun vu s3 ⟨u, H3, I3, pu, q3⟩ => thn (hs.run pins s3 σ H3 _ I3 q3) fun vs s4 ⟨c, H4, I4, ps, q4⟩ => ?_)
  obtain ⟨a, xs, ex, hx, hc, hz0, q⟩ := q4
  subst ex
  cases r1
  have I5 : Inv X pins σ H4 { s4 with heap := s4.heap.push { cls := .type "slice", data := .fields #[vl, vu, vs] } } := I4.kept (t' := s4.toks) fun b ob q => Heap.get?_push_of_some _ q
  obtain ⟨its, r, ht, hz⟩ := I5.list hx
  have hlen := r.length
  show wpAny (model X.prog X.w) X.A (subscriptTail e (.Slice lo hi (some st) p3) (.ref a) (.ref s4.heap.objs.size)) (EP X pins σ Q) X.xe { s4 with heap := s4.heap.push { cls := .type "slice", data := .fields #[vl, vu, vs] } }
  refine tail_any (ops := [.ref a, .ref s4.heap.objs.size]) ht.isList.typeIs (PySem.slot_list_getitem.lookup) ?_ (by with_unfolding_all rfl)
  refine wpAny_getItem_list_slice ht.isList (Heap.IsSliceOf.new _ vl vu vs) pl pu ps hc ?_ (by rw [List.size_toArray]; omega)
  have rp := vals_pick r (sliceRange (sliceBounds l u c xs.length).1 (sliceBounds l u c xs.length).2.1 (sliceBounds l u c xs.length).2.2)
  have es : its.toArray.size = xs.length := by rw [List.size_toArray, hlen]
  refine ⟨.ref _, _, I5.laid (t' := s4.toks) (o := .lst (pickV xs l u c)) (fun b ob q => Heap.get?_push_of_some _ q) (Nat.le_refl _) ?_, rfl, q _ (I5.hok.fresh (Nat.le_refl _))⟩
  refine ⟨hz0, _, 0, rp, ?_⟩
  unfold slicePick
  rw [es]
  exact Heap.get?_push_size _ rfl
end Ly

/-! The layer, sixth part: set of a list of ints, sorted of such a set of any size; max with a default. -/
namespace Ly
open PySem L2 PyProof.Rows

section
variable {P : Program} {w : World} {A : Around} {E : Value → Shared → Prop} {s : Shared}
/-- a new empty set, as it stands -/
abbrev set0 (w : World) : Obj := { cls := .type "set", dict := none, data := .set #[] 0 (.fresh 0 0 (!w.params.followText "set-order")) }
set_option maxRecDepth 100000 in
set_option maxHeartbeats 3200000 in
theorem set_of_list {l : Addr} {its : Array Value} (ns : List Int) {Q : Value → Shared → Prop} (hh : A.handled = none) (hl : s.heap.IsList l its) (hit : IntsAre its.toList ns) (hb : ns.length + 1 < scanBound)
    (h : ∀ (h' : Heap) (tk c : Nat), SetR w h' s.heap.objs.size (fun j => decide (j ∈ ns)) c → c ≤ ns.length → (∀ b o, s.heap.get? b = some o → h'.get? b = some o) → Q (.ref s.heap.objs.size) { s with heap := h', toks := tk }) :
    wpAny (model P w) A (call (.type "set") [.ref l]) Q E s := by
  have sz : its.size = ns.length := by
    have q := IntsAre.length hit
    rw [Array.length_toList] at q
    exact q
  obtain ⟨c, tl, hmro⟩ := F.called_set.mro
  have hmade := F.called_set.made
  have hsub := F.called_set.sub
  refine wpAny_call (codeAny_of_tree ?_)
  show wpAny _ _ (callAny (.type "set") _) _ _ _
  refine wpAny_pure ⟨Code.quiet_builtin _ (by decide +kernel), codeAny_builtin F.entry_type_call ?_⟩
  rw [Around.under_plain (weight_type_call_type "set" [.ref l] []) rfl]
  have h1 := F.called_set.notType
  have h2 := F.called_set.canCreate
  have hct := F.typeCall_set_1 (.ref l)
  repeat (any_goals (first | assumption | wp_step))
  refine codeAny_mono (code_set_led1 (.ref l) (E := E) (Q₁ := fun v z => v = .ref s.heap.objs.size ∧ z = { s with heap := s.heap.push (set0 w) }) ⟨rfl, rfl⟩) fun r z hr => ?_
  cases r with
  | error e => exact hr
  | ok fl =>
    cases fl with
    | ret v =>
      obtain ⟨rfl, rfl⟩ := hr
      have hS : (s.heap.push (set0 w)).get? s.heap.objs.size = some (set0 w) := Heap.get?_push_size _ rfl
      have hT : Shared.TypeIs { s with heap := s.heap.push (set0 w) } (.ref s.heap.objs.size) "set" := ⟨_, hS, rfl⟩
      have hli := F.called_set.init.lookup
      have hbi := F.called_set.init.bind (.ref s.heap.objs.size)
      repeat (any_goals (first | assumption | wp_step))
      refine codeAny_mono (codeAny_call_builtin (R := wants (fun r z => r = .none ∧ ∃ h' tk c, z = { s with heap := h', toks := tk } ∧ SetR w h' s.heap.objs.size (fun j => decide (j ∈ ns)) c ∧ c ≤ ns.length ∧
          (∀ b o, s.heap.get? b = some o → h'.get? b = some o)) E) F.called_set.init.plain F.entry_set_init (check_set_init_1 hT ?_)) fun r2 z2 hr2 => ?_
      · obtain ⟨⟨oc, od, odt, osl⟩, hol, hcl, nl, hdl⟩ := hl
        simp only at hcl hdl
        subst hcl; subst hdl
        have hol' : (s.heap.push (set0 w)).get? l = some { cls := .type "list", dict := od, data := .seq its nl, slots := osl } := Heap.get?_push_of_some _ hol
        have hsls := F.sub_list_set
        have hslf := F.sub_list_frozenset
        have hne : (Value.type "list" == Value.type "dict") = false := by decide
        have hl1 : (s.heap.push (set0 w)).IsList l its := ⟨_, hol', rfl, nl, rfl⟩
        unfold Builtin.«set.__init__» noKeywords Builtin.Frozenset.updateFrom
        generalize hPI : pyIter = PI
        wp_walk
        subst hPI
        refine wpAny_pyIter_list hl1 ?_
        refine wpAny_bind (wpAny_runValue ?_)
        have below : l < s.heap.objs.size := Heap.lt_size hol
        have hh3 : A.in1.in1.in1.handled = none := by simp [hh]
        have size1 : (s.heap.push (set0 w)).objs.size = s.heap.objs.size + 1 := Heap.size_push ..
        have apart : l ≠ (s.heap.push (set0 w)).objs.size := by
          rw [Heap.size_push]
          exact Nat.ne_of_lt (Nat.lt_succ_of_lt below)
        have off : s.heap.objs.size ∉ [(s.heap.push (set0 w)).objs.size, l] := by
          rw [Heap.size_push]
          simp only [List.mem_cons, List.mem_singleton, List.not_mem_nil, or_false, not_or]
          exact ⟨Nat.ne_of_lt (Nat.lt_succ_self _), Nat.ne_of_gt below⟩
        have hval : ∀ (i : Nat) (v : Value), its[i]? = some v → ∃ k t, ns[i]? = some k ∧ v = .int k t := fun i v hv => by
          have hi : i < ns.length := by
            rw [← sz]
            exact (Array.getElem?_eq_some_iff.mp hv).1
          obtain ⟨t, e⟩ := PyProof.Rows.IntsAre.int_at hit i v (by rw [Array.getElem?_toList]; exact hv)
          refine ⟨ns[i], t, List.getElem?_eq_getElem hi, ?_⟩
          rw [e, List.getD_eq_getElem?_getD, List.getElem?_eq_getElem hi] <;> rfl
        refine set_update_ints ((Walks.list hh3 _ l apart its).toS) s.heap.objs.size off ns sz hb hval (its.size - 0) 0 _ (by omega) (Nat.zero_le _) ⟨⟨_, Heap.get?_push_size _ rfl, rfl, rfl⟩, (hl1.push _)⟩ ?hS0 ?hR
        case hS0 =>
          have hget : ((s.heap.push (set0 w)).push { cls := .type "list_iterator", data := .fields #[.ref l, .int 0 0] }).get? s.heap.objs.size = some (set0 w) := Heap.get?_push_of_some _ hS
          exact ⟨0, Nat.le_refl 0, setR_new_at hget⟩
        case hR =>
          intro s' c' hm hc' hS'
          obtain ⟨h', g2, d', tk', os'⟩ := s'
          have eg : g2 = s.gens := hm.gens
          have ed : d' = s.drawn := hm.drawn
          have eo : os' = s.os := hm.os
          subst eg; subst ed; subst eo
          show wpAny _ _ _ _ _ _
          refine wpAny_pure ?_
          show wpAny _ _ (ret Value.none) _ _ _
          rw [sz] at hc'
          refine wpAny_pure ⟨rfl, h', tk', c', rfl, hS', hc', fun b o e => ?_⟩
          have b0 : b < s.heap.objs.size := Heap.lt_size e
          have b1 : b ≠ s.heap.objs.size := Nat.ne_of_lt b0
          have b2 : b ≠ (s.heap.push (set0 w)).objs.size := by
            rw [Heap.size_push]
            exact Nat.ne_of_lt (Nat.lt_succ_of_lt b0)
          exact hm.heap b o (by simp only [List.mem_cons, List.mem_singleton, List.not_mem_nil, or_false, not_or]; exact ⟨b1, b2⟩) (Heap.get?_push_of_some _ (Heap.get?_push_of_some _ e))
      · cases r2 with
        | error e => exact hr2
        | ok fl2 =>
          cases fl2 with
          | ret r =>
            obtain ⟨rfl, h', tk, c', rfl, hS', hc', hk'⟩ := hr2
            repeat (any_goals (first | assumption | wp_step))
            exact h _ _ _ hS' hc' hk'
          | _ => exact hr2.elim
    | _ => exact hr.elim

theorem sorted_any_set {a : Addr} {S : Int → Bool} {n : Nat} {Q : Value → Shared → Prop} (R : SetR w s.heap a S n) (hh : A.handled = none)
    (hQ : ∀ s' p (out : Array Value) (c : Nat) (ns : List Int), (∀ b o, s.heap.get? b = some o → s'.heap.get? b = some o) → s'.gens = s.gens → s'.os = s.os → s.heap.objs.size ≤ p →
      s'.heap.get? p = some (seqObj "list" out c) → IntsAre out.toList ns → ns.Pairwise (· ≤ ·) → ns.Nodup → (∀ k, k ∈ ns ↔ S k = true) → ns.length = n → Q (.ref p) s') :
    wpAny (model P w) A (call (.builtin "sorted") [.ref a]) Q E s := by
  obtain ⟨o, es, ep, t, ho, hex, hd, g, nd, hm, hb, hf, hn, hr, hl⟩ := R
  refine Calls.call_function_entry kind_sorted plain_sorted entry_sorted (args_sorted1 _) ?_
  unfold Builtin.«sorted»
  refine wpAny_bind (m := checkCount "sorted" 1 1 _) (wpAny_pure ?_)
  refine wpAny_bind (collect_set (A := A.in1) hh ⟨o, ho, hex.1, hd⟩ hf hb hr hl fun s1 vs k1 hz g1 o1 pm => ?_)
  have hvl : vs.length = n := by
    rw [pm.length_eq, List.length_map, Array.length_toList]
    exact hn
  have hvz : vs.length ≤ sizeLine := by
    rw [hvl, ← hn]
    exact fits_of_scanBound hb
  have hI : IntsAre vs (vs.map Builtin.Re.reRawOf) := ints_of vs fun v hv => by
    obtain ⟨e, he, q⟩ := List.mem_map.mp (pm.mem_iff.mp hv)
    obtain ⟨k, tk, q1, _⟩ := g e he
    exact ⟨k, tk, by rw [← q]; exact q1⟩
  have pk : (vs.map Builtin.Re.reRawOf).Perm (es.toList.map keyOf) := by
    have q := pm.map Builtin.Re.reRawOf
    rw [List.map_map] at q
    exact q
  refine wpAny_bind (wpAny_newList ?_ hvz)
  have here : (s1.heap.push (seqObj "list" vs.toArray 0)).get? s1.heap.objs.size = some (seqObj "list" vs.toArray 0) := Heap.get?_push_size _ rfl
  refine wpAny_bind (wpAny_holding (wpAny_call_entry slot_list_sort ⟨_, here, rfl⟩ entry_list_sort (SrtO.list_sort_ord SrtO.swo_int here hvz (fun h2 => SrtO.ints_sortable hI h2) fun out a1 a2 => ⟨_, rfl, ?_⟩) (args_list_sort _)))
  obtain ⟨k1', k2', k3'⟩ := SrtO.ints_out hI a1 a2
  obtain ⟨c, hc⟩ := sortedHeap_at (vs := vs) (out := out.toArray) here
  have pn : (out.map SrtO.iv).Perm (es.toList.map keyOf) := k2'.trans pk
  refine wpAny_pure ⟨_, rfl, hQ _ s1.heap.objs.size out.toArray c (out.map SrtO.iv) (fun b u e => ?_) g1 o1 hz hc (by simpa using k1') k3' (pn.nodup_iff.mpr nd) (fun k => by rw [pn.mem_iff, ← hm k]) ?_⟩
  · have q := k1 b u e
    have hlt := Heap.lt_size q
    show (sortedHeap (s1.heap.push (seqObj "list" vs.toArray 0)) s1.heap.objs.size vs out.toArray).get? b = some u
    rw [sortedHeap_old (Nat.ne_of_lt hlt) (by rw [size_push']; exact Nat.lt_succ_of_lt hlt)]
    exact Heap.get?_push_of_some _ q
  · rw [pn.length_eq, List.length_map, Array.length_toList]
    exact hn
end
section
variable {X : Cx}
def rSetL (K : PySem.W.Frag) (w : World) : List V → Hp → VK → Prop := fun vs H Q => ∃ (a : Addr) (ns : List Int), vs = [V.ref a] ∧ SqL K H a (ns.map V.int) ∧ ns.length ≤ 1000 ∧
  ∀ p c, H p = none → c ≤ ns.length → Q (.ref p) (upd H p (SetO w p (fun j => decide (j ∈ ns)) c))
theorem cr_setL (hc : X.calm = true) : CallR X (.type "set") (rSetL X.K X.w) := by
  intro pins s σ H vs us Q I r h
  obtain ⟨a, ns, rfl, hs, hz, q⟩ := h
  obtain ⟨its, rv, hl, _⟩ := I.list hs
  rw [Vals.ref1 r]
  refine set_of_list ns (I.ok.hd hc) hl.isList (by simpa using rv.ints) (Nat.lt_of_le_of_lt (Nat.succ_le_succ hz) (by decide)) fun h' tk c R hc' k => ?_
  exact ⟨.ref _, upd H s.heap.objs.size (SetO X.w s.heap.objs.size (fun j => decide (j ∈ ns)) c), I.laid (t' := tk) k (Nat.le_refl _) (setO_new R), rfl, q _ c (I.hok.fresh (Nat.le_refl _)) hc'⟩
def rSortE (w : World) : List V → Hp → VK → Prop := fun vs H Q => ∃ (a : Addr) (S : Int → Bool) (n : Nat), vs = [V.ref a] ∧ H a = some (SetO w a S n) ∧ n ≤ 1000 ∧
  ∀ (ns : List Int) (p : Addr), ns.Pairwise (· ≤ ·) → ns.Nodup → (∀ k : Int, k ∈ ns ↔ S k = true) → ns.length = n → H p = none → Q (.ref p) (upd H p (.lst (ns.map V.int)))
theorem cr_sortedE (hc : X.calm = true) : CallR X (.builtin "sorted") (rSortE X.w) := by
  intro pins s σ H vs us Q I r h
  obtain ⟨a, S, n, rfl, ha, hz, q⟩ := h
  have R := setO_get I ha
  rw [Vals.ref1 r]
  refine sorted_any_set R (I.ok.hd hc) fun s' p out c ns k g o hp hg hi hs hu hm hl => ?_
  have len1 : (ns.map V.int).length ≤ sizeLine := by
    rw [List.length_map, hl]
    exact Nat.le_of_lt (small1000 hz)
  have fresh : H p = none := I.hok.fresh hp
  have J : Inv X pins σ (upd H p (.lst (ns.map V.int))) { s with heap := s'.heap, gens := s'.gens, drawn := s'.drawn, toks := s'.toks } :=
    I.call (ch := []) (Un.laid k hp fresh) (I.hok.laid k hp ⟨len1, out.toList, c, vals_of_ints hi, hg⟩) (by rw [g]; exact I.bare) (fun _ z => nomatch z)
  have e : s' = { s with heap := s'.heap, gens := s'.gens, drawn := s'.drawn, toks := s'.toks } := by
    cases s'
    cases s
    cases o
    rfl
  rw [e]
  exact ⟨.ref p, _, J, rfl, q ns p hs hu hm hl fresh⟩
end
/-! ### the layer's words for them -/
open Evl (Ex)
/-- each once -/
def once : List Int → List Int
  | [] => []
  | x :: r => if x ∈ r then once r else x :: once r
theorem mem_once : ∀ {l : List Int} {k : Int}, k ∈ once l ↔ k ∈ l
  | [], k => Iff.rfl
  | x :: r, k => by
    unfold once
    have ih := mem_once (l := r) (k := k)
    by_cases h : x ∈ r
    · rw [if_pos h, ih, List.mem_cons]
      exact ⟨.inr, fun z => z.elim (fun e => e ▸ h) id⟩
    · rw [if_neg h, List.mem_cons, List.mem_cons, ih]
theorem once_nodup : ∀ l : List Int, (once l).Nodup
  | [] => List.nodup_nil
  | x :: r => by
    unfold once
    by_cases h : x ∈ r
    · rw [if_pos h]
      exact once_nodup r
    · rw [if_neg h]
      exact List.nodup_cons.mpr ⟨fun z => h (mem_once.mp z), once_nodup r⟩
/-- the members in order, each once -/
def ups (ns : List Int) : List Int := srt (once ns)
theorem mem_ups {ns : List Int} {k : Int} : k ∈ ups ns ↔ k ∈ ns := by
  unfold ups
  rw [(srt_perm _).mem_iff, mem_once]
theorem ups_is {ns ms : List Int} (h1 : ms.Pairwise (· ≤ ·)) (h2 : ms.Nodup) (h3 : ∀ k, k ∈ ms ↔ k ∈ ns) : ms = ups ns := by
  refine srt_is ?_ h1
  exact (List.perm_ext_iff_of_nodup h2 (once_nodup ns)).mpr fun k => by rw [h3, mem_once]
theorem once_len : ∀ l : List Int, (once l).length ≤ l.length
  | [] => Nat.le_refl _
  | x :: r => by
    unfold once
    have := once_len r
    split
    · simp only [List.length_cons]
      omega
    · simp only [List.length_cons]
      omega
theorem ups_len (ns : List Int) : (ups ns).length ≤ ns.length := by
  unfold ups
  rw [srt_len]
  exact once_len ns
section
variable {K : PySem.W.Frag} {Γ : Gm} {te ta tb tc : TE} {to th ts : TO} {d x y z : D} {w : World}
theorem en_sortedSet {ns : List Int} (h : Ed K ta Γ (il ns)) (hz : ns.length ≤ 1000) : En K (tCB (rSortE w) (tCons (tCB (rSetL K w) (tCons ta tNil)) tNil)) Γ ((ups ns).map D.int) := fun B S σ H k Q q =>
  h B S σ H k _ fun v H1 e1 d1 => by
    obtain ⟨a, rfl, h1⟩ := da_il d1
    refine ⟨a, ns, rfl, sql h1, hz, fun p c hp hc => ?_⟩
    refine ⟨p, _, c, rfl, upd_same, by omega, fun ms l g1 g2 g3 g4 hl => ?_⟩
    have e2 : Ex H1 (upd H1 p (SetO w p (fun j => decide (j ∈ ns)) c)) := Ex.new hp
    have em : ms = ups ns := ups_is g1 g2 fun k => by rw [g3, decide_eq_true_eq]
    subst em
    exact q l _ _ (Evl.fresh_back (e1.trans e2) hl) ((e1.trans e2).trans (Ex.new hl)) upd_same (il_all _)
theorem en_sortedT {ns : List Int} (h : Ed K ta Γ (itup ns)) : En K (tCB (rSortTp K) (tCons ta tNil)) Γ ((srt ns).map D.int) := fun B S σ H k Q q =>
  h B S σ H k _ fun v H1 e1 d1 => by
    obtain ⟨a, rfl, h1⟩ := da_itup d1
    refine ⟨a, ns, rfl, sqt h1, fun ns' p hp1 hp2 hp => ?_⟩
    rw [srt_is hp1 hp2]
    exact q p _ _ (Evl.fresh_back e1 hp) (e1.trans (Ex.new hp)) upd_same (il_all _)
theorem ed_maxT {ns : List Int} {m : Int} (h : Ed K ta Γ (itup ns)) (hm : m ∈ ns ∧ ∀ y ∈ ns, y ≤ m) : Ed K (tCB (rBest K true) (tCons ta tNil)) Γ (.int m) := fun B S σ H k Q q =>
  h B S σ H k _ fun v H1 e1 d1 => by
    obtain ⟨a, rfl, h1⟩ := da_itup d1
    refine ⟨a, ns, rfl, sqt h1, List.length_pos_of_mem hm.1, fun m' h2 h3 => ?_⟩
    have e : m' = m := Int.le_antisymm (hm.2 _ h2) (h3 _ hm.1)
    exact q _ H1 e1 (by rw [e]; exact .int _)
theorem ed_minT {ns : List Int} {m : Int} (h : Ed K ta Γ (itup ns)) (hm : m ∈ ns ∧ ∀ y ∈ ns, m ≤ y) : Ed K (tCB (rBest K false) (tCons ta tNil)) Γ (.int m) := fun B S σ H k Q q =>
  h B S σ H k _ fun v H1 e1 d1 => by
    obtain ⟨a, rfl, h1⟩ := da_itup d1
    refine ⟨a, ns, rfl, sqt h1, List.length_pos_of_mem hm.1, fun m' h2 h3 => ?_⟩
    have e : m' = m := Int.le_antisymm (h3 _ hm.1) (hm.2 _ h2)
    exact q _ H1 e1 (by rw [e]; exact .int _)
variable {E : XK} {Xc : Addr → Prop} {N Bk Ct : Gm → Prop} {R : Rt}
/-- x.extend(tuple) of an own list -/
theorem sg_extT {i : Nat} {ds es : List D} (hw : Γ.w = some (i, .lst ds)) (h : Ed K te Γ (.tup es)) (hz : ds.length + es.length ≤ 1000) (hn : N ⟨Γ.g, some (i, .lst (ds ++ es))⟩) :
    Sg K E Xc (tDrop (tBM K "list" (rExtT K) (tVar i) (tCons te tNil))) Γ N Bk Ct R := fun B S σ H k Z n b c r y x => by
  obtain ⟨a, xs, h1, h2, h3, h4, h5, h6⟩ := k.own _ hw
  refine ⟨_, h1, .inl ⟨rfl, xs, .inl (.inl h5)⟩, ?_⟩
  refine h B S σ H k _ fun v H1 e1 d1 => ?_
  have r1 := h6.mono (hs_mono (S := S) e1)
  cases d1 with
  | @tup p zs _ g1 g2 =>
    exact ⟨a, p, xs, zs, rfl, rfl, e1 _ _ h5, sqt g1, by rw [h6.len, g2.len]; exact Nat.le_of_lt (small1000 hz), n S σ _ _ hn (ok_upd (k.mono e1) hw h1 (r1.app g2))⟩
def pickG {α : Type} (xs : List α) (lo hi st : Option Int) : List α := (sliceRange (sliceBounds lo hi st xs.length).1 (sliceBounds lo hi st xs.length).2.1 (sliceBounds lo hi st xs.length).2.2).filterMap (xs[·]?)
theorem pick_all {H : Hp} {vs : List V} {ds : List D} (r : DaAll H vs ds) : ∀ l : List Nat, DaAll H (l.filterMap (vs[·]?)) (l.filterMap (ds[·]?))
  | [] => .nil
  | i :: l => by
    rw [List.filterMap_cons, List.filterMap_cons]
    cases e : ds[i]? with
    | none =>
      have e2 : vs[i]? = none := by
        rw [List.getElem?_eq_none_iff, r.len]
        exact List.getElem?_eq_none_iff.mp e
      rw [e2]
      exact pick_all r l
    | some x =>
      obtain ⟨u, e2, ru⟩ := r.get e
      rw [e2]
      exact .cons ru (pick_all r l)
theorem pickG_map {α β : Type} (f : α → β) (xs : List α) (lo hi st : Option Int) : pickG (xs.map f) lo hi st = (pickG xs lo hi st).map f := by
  unfold pickG
  rw [List.length_map, List.map_filterMap]
  refine congrArg (fun g => List.filterMap g _) (funext fun i => ?_)
  rw [List.getElem?_map]
theorem en_step {tl : TO} {lo hi st : Option Int} {ds : List D} (h : Ed K te Γ (.lst ds)) (h1 : Eo K tl Γ lo) (h2 : Eo K th Γ hi) (h3 : Eo K ts Γ st) (h0 : st ≠ some 0) (hz : (pickG ds lo hi st).length ≤ 1000) : En K (tStep K te tl th ts) Γ (pickG ds lo hi st) := fun B S σ H k Q q =>
  h B S σ H k _ fun v H1 e1 d1 => h1 B S σ H1 (k.mono e1) _ fun H2 e2 => h2 B S σ H2 (k.mono (e1.trans e2)) _ fun H3 e3 => h3 B S σ H3 (k.mono ((e1.trans e2).trans e3)) _ fun H4 e4 => by
    have e := ((e1.trans e2).trans e3).trans e4
    have d1 := d1.mono (hs_mono ((e2.trans e3).trans e4))
    cases d1 with
    | @lst a xs _ g1 g2 =>
      have rp : DaAll (Hs S H4) (pickV xs lo hi st) (pickG ds lo hi st) := by
        unfold pickV pickG
        rw [g2.len]
        exact pick_all g2 _
      exact ⟨_, _, rfl, sql g1, h0, by rw [rp.len]; exact Nat.le_of_lt (small1000 hz), fun p hp => q p _ _ (Evl.fresh_back e hp) (e.trans (Ex.new hp)) upd_same (rp.mono (hs_hide_new hp))⟩
theorem en_stepI {tl : TO} {lo hi st : Option Int} {ns : List Int} (h : Ed K te Γ (il ns)) (h1 : Eo K tl Γ lo) (h2 : Eo K th Γ hi) (h3 : Eo K ts Γ st) (h0 : st ≠ some 0) (hz : (pickG ns lo hi st).length ≤ 1000) : En K (tStep K te tl th ts) Γ ((pickG ns lo hi st).map D.int) :=
  (en_step h h1 h2 h3 h0 (by rw [pickG_map, List.length_map]; exact hz)).is (pickG_map _ _ _ _ _)
end
end Ly

/-! The layer, seventh part: isinstance, objects made, pairs in order. -/
namespace Ly
open PySem L2 PyProof.Rows
open Evl (Ex)
/-! ### isinstance -/
def tyN : D → Option String
  | .non => some "NoneType"
  | .bl _ => some "bool"
  | .int _ => some "int"
  | .str _ => some "str"
  | .dct => some "dict"
  | .lst _ => some "list"
  | .tup _ => some "tuple"
  | _ => none
section
variable {K : PySem.W.Frag} {Γ : Gm} {te ta tb tc : TE} {d x y z : D} {P : D → Prop} {E : XK}
theorem ty_of {S : Hd} {H : Hp} {v : V} {t : String} : ∀ {d : D}, Da (Hs S H) v d → tyN d = some t → TyX K H v (.type t)
  | .non, h, e => by
    cases h
    cases e
    exact .base .non
  | .bl b, h, e => by
    cases h
    cases e
    exact .base (.bl b)
  | .int b, h, e => by
    cases h
    cases e
    exact .base (.int b)
  | .str b, h, e => by
    cases h
    cases e
    exact .base (.str b)
  | .dct, h, e => by
    cases e
    cases h with
    | dct h => exact .base (.dK (hs_out h).1)
  | .lst ds, h, e => by
    cases e
    cases h with
    | lst h _ => exact .base (.lst (hs_out h).1)
  | .tup ds, h, e => by
    cases e
    cases h with
    | tup h _ => exact .base (.tup (hs_out h).1)
theorem ed_isiB {t c : String} {b : Bool} (h : Ed K ta Γ d) (hn : tyN d = some t) (hb : kitB t c = some b) : Ed K (tCB (rIsi K) (tCons ta (tCons (tC (.ty c)) tNil))) Γ (.bl b) := fun B S σ H k Q q =>
  h B S σ H k _ fun v H1 e1 d1 => ⟨v, .ty c, .type t, .type c, b, rfl, .ty c, ty_of d1 hn, kit_ty hb, q _ H1 e1 (.bl b)⟩
/-- what isinstance asks of a class whose instances are looked at -/
structure IsC (K : PySem.W.Frag) (C : Addr) : Prop where
  cl : Cls K C
  ha : PySem.W.findIn K (.ref C) "__class__" = some (some (.builtin "object.__class__"))
  hn : PySem.W.specialIn K (.builtin "object.__class__") "__get__" = some (some (.builtin "getset_descriptor.__get__"))
  htk : PySem.W.takesIn K (.builtin "object.__class__") = some true
  hm : PySem.W.mroIn K C (.type "object") = some true
theorem ed_isiH {C C2 : Addr} {p : D} {b : Bool} (h : Ed K ta Γ (.hvy C p)) (i : IsC K C) (hb : PySem.W.kitOne K (.ref C) (.ref C2) = some b) : Ed K (tCB (rIsi K) (tCons ta (tCons (tC (.ref C2)) tNil))) Γ (.bl b) := fun B S σ H k Q q =>
  h B S σ H k _ fun v H1 e1 d1 => by
    cases d1 with
    | hvy g1 g2 => exact ⟨_, .ref C2, .ref C, .ref C2, b, rfl, .own C2, .base (.ins (hs_out g1).1 i.cl i.ha i.hn i.htk i.hm), hb, q _ H1 e1 (.bl b)⟩
theorem ed_isiO {C C2 : Addr} {p m : D} {b : Bool} (h : Ed K ta Γ (.bts C p m)) (i : IsC K C) (hb : PySem.W.kitOne K (.ref C) (.ref C2) = some b) : Ed K (tCB (rIsi K) (tCons ta (tCons (tC (.ref C2)) tNil))) Γ (.bl b) := fun B S σ H k Q q =>
  h B S σ H k _ fun v H1 e1 d1 => by
    cases d1 with
    | bts g1 g2 g3 => exact ⟨_, .ref C2, .ref C, .ref C2, b, rfl, .own C2, .base (.ins (hs_out g1).1 i.cl i.ha i.hn i.htk i.hm), hb, q _ H1 e1 (.bl b)⟩

/-! ### objects made -/
def spHinit (C : Addr) : Sp := fun vs H Q _ => ∃ (p dx : Addr) (x : V), vs = [.ref p, x] ∧ H p = some (.ins C dx []) ∧ Q .non (upd H p (.ins C dx [("person", x)]))
def spBinit (C : Addr) : Sp := fun vs H Q _ => ∃ (p dx b : Addr) (xs : List V) (y : V), vs = [.ref p, .ref b, y] ∧ H p = some (.ins C dx []) ∧ H b = some (.lst xs) ∧
  ∀ l H', H l = none → H' p = some (.ins C dx [("boats", .ref l), ("mark", y)]) → H' l = some (.lst xs) → (∀ a, a ≠ p → a ≠ l → H' a = H a) → Q .non H'
theorem ed_makeH {C : Addr} {ta : TA} (h : Ea K ta Γ [d]) : Ed K (tMake C (spHinit C) [] E ta) Γ (.hvy C d) := fun B S σ H k Q q =>
  h B S σ H k _ fun vs H1 e1 d1 => fun x dx hx hdx ne => by
    cases d1 with
    | cons r1 r =>
      cases r
      have nS := (k.mono e1).free hx
      have e2 : ∀ o : HO, Ex H1 (upd (upd (upd H1 dx (.own x)) x (.ins C dx [])) x o) := fun o a u g => by
        rw [upd_ne (ne_of_none g hx), upd_ne (ne_of_none g hx), upd_ne (ne_of_none g hdx)]
        exact g
      refine ⟨x, dx, _, rfl, upd_same, rfl, ?_⟩
      exact q _ _ (e1.trans (e2 _)) (.hvy (hs_in nS upd_same) (r1.mono (hs_mono (e2 _))))
/-- Boats(..): the object and its list are new -/
theorem make_new {C : Addr} {ta : TA} {ds : List D} {B : Bs} {S : Hd} {σ : L2.St} {H : Hp} (h : Ea K ta Γ [.lst ds, d]) (k : Ok K B S σ Γ H) {Q : VK}
    (q : ∀ a l dx xs y H1, H a = none → H l = none → a ≠ l → Ex H H1 → H1 a = some (.ins C dx [("boats", .ref l), ("mark", y)]) → H1 l = some (.lst xs) → DaAll (Hs (hide a (hide l S)) H1) xs ds → Da (Hs (hide a (hide l S)) H1) y d → Q (.ref a) H1) :
    tMake C (spBinit C) [] E ta σ H Q :=
  h B S σ H k _ fun vs H1 e1 d1 => fun x dx hx hdx ne => by
    cases d1 with
    | cons r1 r =>
      cases r with
      | cons r2 r =>
        cases r
        cases r1 with
        | @lst b xs _ g1 g2 =>
          have gb := (hs_out g1).1
          have nbx : b ≠ x := ne_of_none gb hx
          have nbd : b ≠ dx := ne_of_none gb hdx
          refine ⟨x, dx, b, xs, _, rfl, upd_same, by rw [upd_ne nbx, upd_ne nbd]; exact gb, fun l H' hl p1 p2 p3 => ⟨rfl, ?_⟩⟩
          have nlx : l ≠ x := fun z => by
            rw [z, upd_same] at hl
            cases hl
          have hl1 : H1 l = none := by
            rw [upd_ne nlx] at hl
            by_cases z : l = dx
            · rw [z, upd_same] at hl
              cases hl
            · rw [upd_ne z] at hl
              exact hl
          have e2 : Ex H1 H' := fun a u g => by
            have n1 := ne_of_none g hx
            have n2 := ne_of_none g hl1
            rw [p3 a n1 n2, upd_ne n1, upd_ne (ne_of_none g hdx)]
            exact g
          have e3 : Ex (Hs S H1) (Hs (hide x (hide l S)) H') := fun a u g => by
            have z := hs_out g
            exact hs_in (fun w => w.elim (fun y => ne_of_none z.1 hx y) (fun w => w.elim (fun y => ne_of_none z.1 hl1 y) z.2)) (e2 _ _ z.1)
          exact q x l dx xs _ H' (Evl.fresh_back e1 hx) (Evl.fresh_back e1 hl1) (Ne.symm nlx) (e1.trans e2) p1 p2 (g2.mono e3) (r2.mono e3)
theorem ed_makeB {C : Addr} {ta : TA} {ds : List D} (h : Ea K ta Γ [.lst ds, d]) : Ed K (tMake C (spBinit C) [] E ta) Γ (.bts C (.lst ds) d) := fun B S σ H k Q q =>
  make_new h k fun a l dx xs y H1 ha hl ne e1 p1 p2 r1 r2 => by
    have sb : Ex (Hs (hide a (hide l S)) H1) (Hs S H1) := hs_sub fun b z => .inr (.inr z)
    exact q _ H1 e1 (.bts (hs_in (k.free ha) p1) (.lst (hs_in (k.free hl) p2) (r1.mono sb)) (r2.mono sb))

/-! ### pairs in order -/
def lexle (a b : Int × Int) : Bool := decide (a.1 < b.1 ∨ (a.1 = b.1 ∧ a.2 ≤ b.2))
def psrt (ps : List (Int × Int)) : List (Int × Int) := ps.mergeSort lexle
theorem psrt_perm (ps : List (Int × Int)) : (psrt ps).Perm ps := List.mergeSort_perm ps _
theorem psrt_up (ps : List (Int × Int)) : (psrt ps).Pairwise (fun a b => a.1 < b.1 ∨ (a.1 = b.1 ∧ a.2 ≤ b.2)) := by
  have h := List.pairwise_mergeSort (le := lexle) (fun a b c h1 h2 => by
      unfold lexle at *
      rw [decide_eq_true_eq] at *
      omega)
    (fun a b => by
      unfold lexle
      by_cases h : a.1 < b.1 ∨ (a.1 = b.1 ∧ a.2 ≤ b.2)
      · rw [decide_eq_true h, Bool.true_or]
      · rw [decide_eq_true (p := b.1 < a.1 ∨ (b.1 = a.1 ∧ b.2 ≤ a.2)) (by omega), Bool.or_true]) ps
  exact h.imp fun h => of_decide_eq_true h
theorem psrt_is {a ps : List (Int × Int)} (hp : a.Perm ps) (ha : a.Pairwise (fun a b => a.1 < b.1 ∨ (a.1 = b.1 ∧ a.2 ≤ b.2))) : a = psrt ps := by
  refine List.Perm.eq_of_pairwise (fun x y _ _ h1 h2 => ?_) ha (psrt_up ps) (hp.trans (psrt_perm ps).symm)
  have e1 : x.1 = y.1 := by omega
  have e2 : x.2 = y.2 := by omega
  exact Prod.ext e1 e2
def prD (p : Int × Int) : D := .tup [.int p.1, .int p.2]
theorem prs_out {H : Hp} : ∀ {ps : List (Int × Int)} {vs : List V}, DaAll H vs (ps.map prD) → ∀ x ∈ vs, ∃ (t : Addr) (i j : Int), x = V.ref t ∧ H t = some (.tup [.int i, .int j])
  | [], _, h, x, hx => by
    cases h
    cases hx
  | p :: ps, _, h, x, hx => by
    cases h with
    | cons a q =>
      rcases List.mem_cons.mp hx with e | hx
      · subst e
        cases a with
        | tup g r =>
          cases r with
          | cons r1 r =>
            cases r with
            | cons r2 r =>
              cases r
              rw [da_int r1, da_int r2] at g
              exact ⟨_, _, _, rfl, g⟩
      · exact prs_out q x hx
/-- what pair a value is -/
noncomputable def prOf (H : Hp) (v : V) : Int × Int := match v with
  | .ref t => match H t with
    | some (.tup [.int i, .int j]) => (i, j)
    | _ => (0, 0)
  | _ => (0, 0)
theorem prs_of {H : Hp} : ∀ {ps : List (Int × Int)} {vs : List V}, DaAll H vs (ps.map prD) → vs.map (prOf H) = ps
  | [], _, h => by
    cases h
    rfl
  | p :: ps, _, h => by
    cases h with
    | cons a q =>
      rw [List.map_cons, prs_of q]
      cases a with
      | @tup t _ _ g r =>
        cases r with
        | cons r1 r =>
          cases r with
          | cons r2 r =>
            cases r
            rw [da_int r1, da_int r2] at g
            have e : prOf H (.ref t) = (p.1, p.2) := by
              show (match H t with | some (HO.tup [.int i, .int j]) => (i, j) | _ => (0, 0)) = (p.1, p.2)
              rw [g]
            rw [e]
theorem prs_all {H : Hp} : ∀ {vs : List V}, (∀ x ∈ vs, ∃ (t : Addr) (i j : Int), x = V.ref t ∧ H t = some (.tup [.int i, .int j])) → DaAll H vs ((vs.map (prOf H)).map prD)
  | [], _ => .nil
  | v :: vs, h => by
    obtain ⟨t, i, j, e, g⟩ := h v (List.mem_cons_self ..)
    refine .cons ?_ (prs_all fun x hx => h x (List.mem_cons_of_mem _ hx))
    subst e
    have e : prOf H (.ref t) = (i, j) := by
      show (match H t with | some (HO.tup [.int i, .int j]) => (i, j) | _ => (0, 0)) = (i, j)
      rw [g]
    rw [e]
    exact .tup g (.cons (.int i) (.cons (.int j) .nil))
theorem en_sortedP {ps : List (Int × Int)} (h : Ed K ta Γ (.lst (ps.map prD))) : En K (tCB (rSortedPO K) (tCons ta tNil)) Γ ((psrt ps).map prD) := fun B S σ H k Q q =>
  h B S σ H k _ fun v H1 e1 d1 => by
    cases d1 with
    | @lst a xs _ g r =>
      have out := prs_out r
      have key := prs_of r
      refine ⟨a, xs, prOf (Hs S H1), rfl, sql g, fun x hx => ?_, fun ys p h1 h2 hp => ?_⟩
      · obtain ⟨t, i, j, e, g2⟩ := out x hx
        subst e
        refine ⟨t, rfl, ?_⟩
        have e : prOf (Hs S H1) (.ref t) = (i, j) := by
          show (match Hs S H1 t with | some (HO.tup [.int i, .int j]) => (i, j) | _ => (0, 0)) = (i, j)
          rw [g2]
        rw [e]
        exact (hs_out g2).1
      · have pm := h2.perm
        have up : (ys.map (prOf (Hs S H1))).Pairwise (fun a b => a.1 < b.1 ∨ (a.1 = b.1 ∧ a.2 ≤ b.2)) := by
          refine List.pairwise_map.mpr (h1.imp fun {x y} z => ?_)
          have z2 := SrtO.lexB_no.mp (show SrtO.lexB (prOf (Hs S H1) y) (prOf (Hs S H1) x) = false from z)
          omega
        have pm2 := pm.map (prOf (Hs S H1))
        rw [key] at pm2
        have e := psrt_is pm2 up
        have all : DaAll (Hs S H1) ys ((ys.map (prOf (Hs S H1))).map prD) := prs_all fun x hx => out x (pm.mem_iff.mp hx)
        rw [e] at all
        exact q p ys _ (Evl.fresh_back e1 hp) (e1.trans (Ex.new hp)) upd_same (all.mono (hs_hide_new hp))
end
end Ly
namespace Ly
theorem nw {p : Nat × Ow → Prop} : ∀ x, (none : Option (Nat × Ow)) = some x → p x := fun _ h => nomatch h
end Ly
namespace Ly
open PySem L2
/-! ### the rules with the written part told (within a comprehension) -/
section
variable {X : Cx} {K : PySem.W.Frag}
theorem ixL (h : X.K = K := by rfl) : IxR X (rIxL K) := by
  subst h
  exact ix_list
theorem ixT (h : X.K = K := by rfl) : IxR X (rIxT K) := by
  subst h
  exact ix_tup
theorem isI (h : X.K = K := by rfl) : CallR X (.builtin "isinstance") (rIsi K) := by
  subst h
  exact call_isi
theorem crLen (h : X.K = K := by rfl) : CallR X (.builtin "len") (Evl.rLenS K) := by
  subst h
  exact cr_len
theorem catT (h : X.K = K := by rfl) : OpR X (binaryOp .Add) (rCatA K) := by
  subst h
  exact op_catA
theorem slT (h : X.K = K := by rfl) : SlR X (rSlA K) := by
  subst h
  exact sl_tupA
theorem slL (h : X.K = K := by rfl) : SlR X (rSlL K) := by
  subst h
  exact sl_list
end
end Ly

/-! The layer, eighth part: new objects of boats handed back and owned. -/
namespace Ly
open PySem L2
open Evl (Ex)
theorem NewB.da {He H' : Hp} {S0 S : Hd} {a C : Addr} {ds : List D} {m : Int} (h : NewB He S0 H' a C ds m) (inn : ∀ b, S b → ∃ o, He b = some o) (sb : ∀ b, S b → S0 b) : Da (Hs S H') (.ref a) (.bts C (.lst ds) (.int m)) := by
  obtain ⟨l, dx, xs, ne, h1, h2, h3, h4, h5⟩ := h.ex
  have n1 : ¬ S a := fun z => by
    obtain ⟨o, q⟩ := inn a z
    rw [h1] at q
    cases q
  have n2 : ¬ S l := fun z => by
    obtain ⟨o, q⟩ := inn l z
    rw [h2] at q
    cases q
  exact .bts (hs_in n1 h3) (.lst (hs_in n2 h4) (h5.mono (hs_sub fun b z => .inr (.inr (sb b z))))) (.int m)
/-- as spX, with new objects of boats among what is handed back -/
def spN {α : Type} (args : α → List D) (pre : α → Prop) (res : α → D → Prop) (new : α → Addr → List D → Int → Prop) (bad : List D → Addr → Prop) : Sp := fun vs H Q E =>
  (∃ (a : α) (S : Hd), (∀ b, S b → ∃ o, H b = some o) ∧ DaAll (Hs S H) vs (args a) ∧ pre a ∧ (∀ v r H', res a r → Ex H H' → Da (Hs S H') v r → Q v H') ∧
    ∀ p C ds m H', new a C ds m → Ex H H' → NewB H S H' p C ds m → Q (.ref p) H') ∨
  ∃ (ds : List D) (S : Hd) (C : Addr), (∀ b, S b → ∃ o, H b = some o) ∧ DaAll (Hs S H) vs ds ∧ bad ds C ∧ ∀ H', Ex H H' → E (.ref C) none H'
section
variable {K : PySem.W.Frag} {E : XK} {Xc : Addr → Prop} {Γ : Gm} {N Bk Ct : Gm → Prop} {R : Rt} {ta : TA} {te : TE} {t u : TS} {α : Type} {args : α → List D} {pre : α → Prop} {res : α → D → Prop} {new : α → Addr → List D → Int → Prop} {bad : List D → Addr → Prop} {d : D}
theorem eg_callN (a : α) (h : Ea K ta Γ (args a)) (hp : pre a) : Eg K (tCall (spN args pre res new bad) [] E ta) Γ (fun d => res a d ∨ ∃ C ds m, new a C ds m ∧ d = .bts C (.lst ds) (.int m)) := fun B S σ H k Q q =>
  h B S σ H k _ fun vs H1 e1 d1 => by
    have k1 := k.mono e1
    refine .inl ⟨a, S, k1.inn, by rw [List.append_nil]; exact d1, hp, fun v r H' p e2 d2 => q v r H' (.inl p) (e1.trans e2) d2, fun p C ds m H' hn e2 nb => ?_⟩
    exact q _ _ H' (.inr ⟨C, ds, m, hn, rfl⟩) (e1.trans e2) (nb.da k1.inn fun _ z => z)
/-- a new object of boats is handed back -/
theorem sg_retNew {C : Addr} {ds : List D} {m : Int} (h : Ea K ta Γ [.lst ds, .int m]) (hn : R.n C ds m) : Sg K E Xc (tRet (tMake C (spBinit C) [] E0 ta)) Γ N Bk Ct R := fun B S σ H k Z n b c r y x =>
  make_new h k fun a l dx xs z H1 ha hl ne e1 p1 p2 r1 r2 => by
    have fr : ∀ b, H b = none → B.He b = none := fun b e => Evl.fresh_back k.ent e
    rw [da_int r2] at p1
    exact y a C ds m H1 hn (k.ent.trans e1) ⟨l, dx, xs, ne, fr a ha, fr l hl, p1, p2, r1.mono (hs_sub fun b z => z.imp id fun z => z.imp id (k.sub b))⟩
theorem ok_newB {B : Bs} {S : Hd} {σ : L2.St} {H H1 : Hp} {a C : Addr} {i : Nat} {ds : List D} {m : Int} (k : Ok K B S σ Γ H) (e : Ex H H1) (h : NewB H S H1 a C ds m) (hi : i < Γ.g.length) :
    ∃ S', Ok K B S' (σ.set i (some (.ref a))) ⟨Γ.g.set i none, some (i, .ob C ds m)⟩ H1 := by
  obtain ⟨l, dx, xs, ne, h1, h2, h3, h4, h5⟩ := h.ex
  have nS : ∀ b, H b = none → ¬ S b := fun b q => k.free q
  have fr : ∀ b, H b = none → B.He b = none := fun b q => Evl.fresh_back k.ent q
  have e2 : Ex (Hs S H) (Hs (hide a (hide l S)) H1) := fun b o q => by
    have z := hs_out q
    exact hs_in (fun w => w.elim (fun y => by rw [y, h1] at z; cases z.1) fun w => w.elim (fun y => by rw [y, h2] at z; cases z.1) z.2) (e _ _ z.1)
  refine ⟨hide a (hide l S), fun b q => ?_, fun b q => .inr (.inr (k.sub b q)), k.ent.trans e, k.vis.trans e2, ?_, fun j d hj => ?_, fun j ns hj => ?_, fun x hx => ?_⟩
  · rcases q with rfl | rfl | q
    · exact ⟨_, h3⟩
    · exact ⟨_, h4⟩
    · obtain ⟨o, z⟩ := k.inn b q
      exact ⟨o, e _ _ z⟩
  · show (σ.set i _).length = (Γ.g.set i _).length
    rw [List.length_set, List.length_set, k.len]
  · rcases get_set hj with ⟨rfl, hl, e1⟩ | ⟨n, hj⟩
    · cases e1
    · obtain ⟨u, g1, g2⟩ := k.val j d hj
      exact ⟨u, by rw [List.getElem?_set_ne (Ne.symm n)]; exact g1, g2.mono e2⟩
  · rcases get_set hj with ⟨rfl, hl, e1⟩ | ⟨n, hj⟩
    · cases e1
    · obtain ⟨u, g1, g2⟩ := k.scr j ns hj
      exact ⟨u, by rw [List.getElem?_set_ne (Ne.symm n)]; exact g1, g2⟩
  · cases hx
    exact ⟨a, l, dx, xs, List.getElem?_set_self (by rw [k.len]; exact hi), .inl rfl, fun z => nS a h1 (k.sub a z), fr a h1, .inr (.inl rfl), fun z => nS l h2 (k.sub l z), fr l h2, h3, h4, h5⟩
/-- x = told(..): a plain value, or a new object that is x's own -/
theorem sq_callN {i : Nat} (a : α) (h : Ea K ta Γ (args a)) (hp : pre a) (hw : ∀ x, Γ.w = some x → x.1 ≠ i) (hi : i < Γ.g.length) (h1 : ∀ d, res a d → Sg K E Xc u ⟨Γ.g.set i (some (.v d)), Γ.w⟩ N Bk Ct R)
    (h2 : ∀ C ds m, new a C ds m → Sg K E Xc u ⟨Γ.g.set i none, some (i, .ob C ds m)⟩ N Bk Ct R) {E' : XK} : Sg K E Xc (tSeq (tAsg (tCall (spN args pre res new bad) [] E' ta) (gName i)) u) Γ N Bk Ct R := fun B S σ H k Z n b c r y x =>
  h B S σ H k _ fun vs H1 e1 d1 => by
    have k1 := k.mono e1
    refine .inl ⟨a, S, k1.inn, by rw [List.append_nil]; exact d1, hp, fun v d H' p e2 d2 => h1 d p B S _ H' ((k1.mono e2).set d2 hw) Z n b c r y x, fun p C ds m H' hn e2 nb => ?_⟩
    obtain ⟨S', k'⟩ := ok_newB k1 e2 nb hi
    exact h2 C ds m hn B S' _ H' k' Z n b c r y x
/-- the own object is kept as it stands -/
theorem ok_freeO {B : Bs} {S : Hd} {σ : L2.St} {H : Hp} {i : Nat} {C : Addr} {ds : List D} {m : Int} (k : Ok K B S σ Γ H) (hw : Γ.w = some (i, .ob C ds m)) :
    ∃ S' : Hd, (∀ a, S' a → S a) ∧ Ok K B S' σ ⟨Γ.g.set i (some (.v (.bts C (.lst ds) (.int m)))), none⟩ H := by
  obtain ⟨a, l, dx, xs, h1, h2, h3, h4, h5, h6, h7, h8, h9, h10⟩ := k.own _ hw
  have sb : ∀ b, (S b ∧ b ≠ a ∧ b ≠ l) → S b := fun b z => z.1
  refine ⟨fun b => S b ∧ b ≠ a ∧ b ≠ l, sb, fun b q => k.inn b q.1, fun b q => ⟨k.sub b q, fun e => h3 (e ▸ q), fun e => h6 (e ▸ q)⟩, k.ent, k.vis.trans (hs_sub sb), ?_, fun j d hj => ?_, fun j ns hj => ?_, fun _ z => nomatch z⟩
  · show σ.length = (Γ.g.set i _).length
    rw [List.length_set, k.len]
  · rcases get_set hj with ⟨rfl, hl, e1⟩ | ⟨n, hj⟩
    · cases e1
      exact ⟨_, h1, .bts (hs_in (fun z => z.2.1 rfl) h8) (.lst (hs_in (fun z => z.2.2 rfl) h9) (h10.mono (hs_sub sb))) (.int m)⟩
    · obtain ⟨v, g1, g2⟩ := k.val j d hj
      exact ⟨v, g1, g2.mono (hs_sub sb)⟩
  · rcases get_set hj with ⟨rfl, hl, e1⟩ | ⟨n, hj⟩
    · cases e1
    · exact k.scr j ns hj
theorem sg_freeO {i : Nat} {C : Addr} {ds : List D} {m : Int} (hw : Γ.w = some (i, .ob C ds m)) (h : Sg K E Xc t ⟨Γ.g.set i (some (.v (.bts C (.lst ds) (.int m)))), none⟩ N Bk Ct R) : Sg K E Xc t Γ N Bk Ct R := fun B S σ H k Z n b c r y x => by
  obtain ⟨S', _, k'⟩ := ok_freeO k hw
  exact h B S' σ H k' Z n b c r y x
theorem ed_openO {i : Nat} {C : Addr} {ds : List D} {m : Int} (hw : Γ.w = some (i, .ob C ds m)) (h : Ed K te ⟨Γ.g.set i (some (.v (.bts C (.lst ds) (.int m)))), none⟩ d) (hs : Scal d) : Ed K te Γ d := fun B S σ H k Q q => by
  obtain ⟨S', _, k'⟩ := ok_freeO k hw
  exact h B S' σ H k' Q fun v H1 e1 d1 => q v H1 e1 (scal_mono hs d1)
theorem et_openO {tt : TT} {i : Nat} {C : Addr} {ds : List D} {m : Int} {b : Bool} (hw : Γ.w = some (i, .ob C ds m)) (h : Et K tt ⟨Γ.g.set i (some (.v (.bts C (.lst ds) (.int m)))), none⟩ b) : Et K tt Γ b := fun B S σ H k Q q => by
  obtain ⟨S', _, k'⟩ := ok_freeO k hw
  exact h B S' σ H k' Q q
/-- x.boats.append(e), x's own object -/
theorem sg_appO {i : Nat} {C : Addr} {ds : List D} {m : Int} (hw : Γ.w = some (i, .ob C ds m)) (hc : Cls K C) (hna : NoAttr K C "boats") (h : Ed K te Γ d) (hz : ds.length < 1000) (hn : N ⟨Γ.g, some (i, .ob C (ds ++ [d]) m)⟩) :
    Sg K E Xc (tDrop (tBM K "list" rAppend (tFld K (tVar i) "boats") (tCons te tNil))) Γ N Bk Ct R := fun B S σ H k Z n b c r y x => by
  obtain ⟨a, l, dx, xs, h1, h2, h3, h4, h5, h6, h7, h8, h9, h10⟩ := k.own _ hw
  refine ⟨_, h1, a, C, dx, _, _, rfl, h8, hc, hna, look_b, .inl ⟨rfl, xs, .inl (.inl h9)⟩, ?_⟩
  refine h B S σ H k _ fun v H1 e1 d1 => ?_
  have r1 := (h10.mono (hs_mono (S := S) e1)).app (.cons d1 .nil)
  have k1 := k.mono e1
  have g8 := e1 _ _ h8
  have g9 := e1 _ _ h9
  have nal : a ≠ l := ne_of g8 g9 (by intro z; cases z)
  have hu := hs_upd (H := H1) (o := .lst (xs ++ [v])) h5
  refine ⟨l, xs, v, rfl, rfl, g9, by rw [h10.len]; exact small1000 (by omega), n S σ _ _ hn ?_⟩
  refine ⟨fun b q => ?_, k.sub, fun b o q => ?_, by rw [hu]; exact k1.vis, k.len, by rw [hu]; exact k1.val, k.scr, fun z hz => ?_⟩
  · by_cases e : b = l
    · rw [e]
      exact ⟨_, upd_same⟩
    · rw [upd_ne e]
      exact k1.inn b q
  · rw [upd_ne (ne_of_none q h7)]
    exact k1.ent _ _ q
  · cases hz
    exact ⟨a, l, dx, _, h1, h2, h3, h4, h5, h6, h7, by rw [upd_ne nal]; exact g8, upd_same, by rw [hu]; exact r1⟩
end
end Ly

/-! The layer, ninth part: either of two readings, results of calls looked at, places. -/
namespace Ly
open PySem L2
open Evl (Ex)
/-- an expression that is read by either of two rules -/
def tE2 (a b : TE) : TE := fun σ H Q => a σ H Q ∨ b σ H Q
theorem pe_or2 {X : Cx} {e : Expr} {a b : TE} (h1 : PE X e a) (h2 : PE X e b) : PE X e (tE2 a b) := ⟨fun pins s σ H Q I h => h.elim (h1.run pins s σ H Q I) (h2.run pins s σ H Q I)⟩
section
variable {K : PySem.W.Frag} {E : XK} {Γ : Gm} {ta tb te : TE} {d : D}
theorem ed_l (h : Ed K ta Γ d) : Ed K (tE2 ta tb) Γ d := fun B S σ H k Q q => .inl (h B S σ H k Q q)
theorem ed_r (h : Ed K tb Γ d) : Ed K (tE2 ta tb) Γ d := fun B S σ H k Q q => .inr (h B S σ H k Q q)
/-- the boats of what a call hands back -/
theorem eg_fldB {C : Addr} {P : List (List Int) → Prop} (h : Eg K te Γ fun d => ∃ bs m, d = .bts C (btl bs) m ∧ P bs) (hc : Cls K C) (hn : NoAttr K C "boats") : Eg K (tFld K te "boats") Γ fun d => ∃ bs, d = btl bs ∧ P bs := fun B S σ H k Q q =>
  h B S σ H k _ fun v d H1 p e1 d1 => by
    obtain ⟨bs, m, rfl, hp⟩ := p
    cases d1 with
    | bts h1 r1 r2 => exact ⟨_, C, _, _, _, rfl, (hs_out h1).1, hc, hn, look_b, q _ _ H1 ⟨bs, rfl, hp⟩ e1 r1⟩
theorem eg_lenB {P : List (List Int) → Prop} {n : Int} (h : Eg K te Γ fun d => ∃ bs, d = btl bs ∧ P bs) (hn : ∀ bs, P bs → (bs.length : Int) = n) : Ed K (tCB (Evl.rLenS K) (tCons te tNil)) Γ (.int n) := fun B S σ H k Q q =>
  h B S σ H k _ fun v d H1 p e1 d1 => by
    obtain ⟨bs, rfl, hp⟩ := p
    cases d1 with
    | lst h1 r => exact ⟨_, _, rfl, .inl (sql h1), q _ H1 e1 (by rw [r.len, List.length_map, hn bs hp]; exact .int _)⟩
theorem eg_eqB {P : List (List Int) → Prop} {ys : List (List Int)} {b : Bool} (h : Eg K te Γ fun d => ∃ bs, d = btl bs ∧ P bs) (hb : Ed K tb Γ (btl ys)) (hn : ∀ bs, P bs → decide (bs = ys) = b) : Ed K (tOp (rEqD K) te tb) Γ (.bl b) := fun B S σ H k Q q =>
  h B S σ H k _ fun v d H1 p e1 d1 => hb B S σ H1 (k.mono e1) _ fun u H2 e2 d2 => by
    obtain ⟨bs, rfl, hp⟩ := p
    refine ⟨_, _, dp_btl (d1.mono (hs_mono e2)), dp_btl d2, shaped_btl _, shaped_btl _, ?_⟩
    simp only [PyData.eqv, eqv_btl]
    rw [hn bs hp]
    exact q _ H2 (e1.trans e2) (.bl _)
theorem eg_neB {P : List (List Int) → Prop} {ys : List (List Int)} {b : Bool} (h : Eg K te Γ fun d => ∃ bs, d = btl bs ∧ P bs) (hb : Ed K tb Γ (btl ys)) (hn : ∀ bs, P bs → (!decide (bs = ys)) = b) : Ed K (tOp (rNeD K) te tb) Γ (.bl b) := fun B S σ H k Q q =>
  h B S σ H k _ fun v d H1 p e1 d1 => hb B S σ H1 (k.mono e1) _ fun u H2 e2 d2 => by
    obtain ⟨bs, rfl, hp⟩ := p
    refine ⟨_, _, dp_btl (d1.mono (hs_mono e2)), dp_btl d2, shaped_btl _, shaped_btl _, ?_⟩
    simp only [PyData.eqv, eqv_btl]
    rw [hn bs hp]
    exact q _ H2 (e1.trans e2) (.bl _)
/-- a method of what a call hands back -/
theorem eg_methBG {α : Type} {args : α → List D} {pre : α → Prop} {res : α → D → Prop} {to : TE} {ta : TA} {C : Addr} {mn : Str} {P : List (List Int) → Int → Prop} {ds : List D} {R : D → Prop} (ho : Eg K to Γ fun d => ∃ bs m, d = .bts C (btl bs) (.int m) ∧ P bs m)
    (hm : ∀ x y : V, List.lookup mn [(("boats" : Str), x), ("mark", y)] = none) (h : Ea K ta Γ ds) (ha : ∀ bs m, P bs m → ∃ a, args a = .bts C (btl bs) (.int m) :: ds ∧ pre a ∧ ∀ r, res a r → R r) :
    Eg K (tMeth C mn (spG args pre res) [] E to ta) Γ R := fun B S σ H k Q q =>
  ho B S σ H k _ fun v d H1 p e1 d1 => by
    obtain ⟨bs, m, rfl, hp⟩ := p
    obtain ⟨a, ha, hpre, hr⟩ := ha bs m hp
    have d0 := d1
    cases d1 with
    | bts h1 r1 r2 =>
      refine ⟨_, _, _, rfl, (hs_out h1).1, hm _ _, ?_⟩
      refine h B S σ H1 (k.mono e1) _ fun vs H2 e2 d2 => ⟨a, S, ((k.mono e1).mono e2).inn, ?_, hpre, fun v r H' p e3 d3 => q v r H' (hr r p) ((e1.trans e2).trans e3) d3⟩
      rw [List.append_nil, ha]
      exact .cons (d0.mono (hs_mono e2)) d2
end
section
variable {K : PySem.W.Frag} {E : XK} {Γ : Gm} {ta tb te : TE} {d : D}
theorem eg_IIr {f : Int → Int → Int} {i : Int} {P : Int → Prop} (ha : Ed K ta Γ (.int i)) (hb : Eg K tb Γ fun d => ∃ j, d = .int j ∧ P j) : Eg K (tOp (rI0 fun i j => .int (f i j)) ta tb) Γ fun d => ∃ j, d = .int (f i j) ∧ P j := fun B S σ H k Q q =>
  ha B S σ H k _ fun v H1 e1 d1 => hb B S σ H1 (k.mono e1) _ fun u d H2 p e2 d2 => by
    obtain ⟨j, rfl, hp⟩ := p
    exact ⟨i, j, da_int d1, da_int d2, q _ _ H2 ⟨j, rfl, hp⟩ (e1.trans e2) (.int _)⟩
theorem eg_min2r {i : Int} {P : Int → Prop} (ha : Ed K ta Γ (.int i)) (hb : Eg K tb Γ fun d => ∃ j, d = .int j ∧ P j) : Eg K (tCB r2min (tCons ta (tCons tb tNil))) Γ fun d => ∃ j, d = .int (min i j) ∧ P j := fun B S σ H k Q q =>
  ha B S σ H k _ fun v H1 e1 d1 => hb B S σ H1 (k.mono e1) _ fun u d H2 p e2 d2 => by
    obtain ⟨j, rfl, hp⟩ := p
    refine ⟨i, j, by rw [da_int d1, da_int d2], ?_⟩
    have e : (if j < i then j else i) = min i j := by
      split <;> omega
    rw [e]
    exact q _ _ H2 ⟨j, rfl, hp⟩ (e1.trans e2) (.int _)
end
theorem rgD_at0 {n i : Nat} {d : D} (h : (rgD 0 n)[i]? = some d) : i < n ∧ d = .int (i : Int) := by
  have hi : i < n := by
    have := (List.getElem?_eq_some_iff.mp h).1
    rw [rgD_len] at this
    exact this
  rw [rgD_get hi, Int.zero_add] at h
  exact ⟨hi, (Option.some.inj h).symm⟩
/-- a place in a list -/
theorem atI_in {α : Type} {xs : List α} {i : Int} (h0 : -(xs.length : Int) ≤ i) (h1 : i < xs.length) : ∃ v, atI xs i = some v ∧ v ∈ xs := by
  have key : ∃ j, ixN xs.length i = some j ∧ j < xs.length := by
    unfold ixN
    by_cases h : 0 ≤ i
    · exact ⟨i.toNat, by rw [if_pos h, if_pos h1], by omega⟩
    · exact ⟨(i + xs.length).toNat, by rw [if_neg h, if_pos h0], by omega⟩
  obtain ⟨j, e, hj⟩ := key
  refine ⟨xs[j], ?_, List.getElem_mem hj⟩
  unfold atI
  rw [e]
  exact List.getElem?_eq_getElem hj
theorem cutG_len {α : Type} (xs : List α) (lo hi : Option Int) : (cutG xs lo hi).length ≤ xs.length := by
  unfold cutG
  rw [List.length_take, List.length_drop]
  omega
theorem cutG_mem {α : Type} {xs : List α} {lo hi : Option Int} {x : α} (h : x ∈ cutG xs lo hi) : x ∈ xs := List.mem_of_mem_drop (List.mem_of_mem_take h)
theorem pickG_mem {α : Type} {xs : List α} {lo hi st : Option Int} {x : α} (h : x ∈ pickG xs lo hi st) : x ∈ xs := by
  unfold pickG at h
  obtain ⟨i, _, hi⟩ := List.mem_filterMap.mp h
  exact List.mem_of_getElem? hi
end Ly
namespace Ly
open PySem L2
open Evl (Ex)
theorem ok_iniS {K : PySem.W.Frag} {H : Hp} {N : List Str} {a : Addr} {ns : List Int} (hN : 0 < N.length) (hs : SqL K H a (ns.map V.int)) : Ok K ⟨H, Hs (fun _ => False) H, fun _ => False⟩ (fun _ => False) (L2.start N [.ref a]) ⟨some (.s ns) :: List.replicate (N.length - 1) none, none⟩ H where
  inn := fun _ h => h.elim
  sub := fun _ h => h
  ent := Ex.refl _
  vis := Ex.refl _
  len := by
    unfold L2.start
    simp only [List.length_append, List.length_map, List.length_replicate, List.length_cons, List.length_nil]
    omega
  val := fun i d h => by
    cases i with
    | zero => cases h
    | succ i =>
      rw [List.getElem?_cons_succ, List.getElem?_replicate] at h
      split at h <;> cases h
  scr := fun i ns' h => by
    cases i with
    | zero =>
      injection h with h
      injection h with h
      injection h with h
      subst h
      exact ⟨a, rfl, hs⟩
    | succ i =>
      rw [List.getElem?_cons_succ, List.getElem?_replicate] at h
      split at h <;> cases h
  own := fun _ h => nomatch h
/-- the law's own body: the script is its one argument, True is due -/
theorem run_law {K : PySem.W.Frag} {E : XK} {H : Hp} {N : List Str} {a : Addr} {ns : List Int} {t : TS} {Q : VK} (hN : 0 < N.length) (hs : SqL K H a (ns.map V.int))
    (h : Sg K E (fun _ => False) t ⟨some (.s ns) :: List.replicate (N.length - 1) none, none⟩ (fun _ => False) (fun _ => False) (fun _ => False) (⟨fun d => d = .bl true, fun _ _ _ => False⟩ : Rt)) (q : ∀ H', Q (.bl true) H') :
    t { nx := fun _ H' => Q .non H', rt := Q } (L2.start N [.ref a]) H :=
  h _ _ _ H (ok_iniS hN hs) _ (fun _ _ _ _ z _ => z.elim) (fun _ _ _ _ z _ => z.elim) (fun _ _ _ _ z _ => z.elim) (fun v d H' e _ r => by
    subst e
    rw [da_bl r]
    exact q H') (fun _ _ _ _ _ z => z.elim) (fun _ _ z => z.elim)
end Ly
namespace Ly
open PySem L2
theorem kit_sub {K : PySem.W.Frag} {A B : Addr} {b : Bool} (ic : PySem.W.isClsIn K B = true) (ty : PySem.W.typeIn K (.ref B) = some (.type "type")) (s : PySem.W.subIn K (.ref A) (.ref B) = some b) (h : b = false → PySem.W.subIn K (.ref A) (.ref A) = some true) : PySem.W.kitOne K (.ref A) (.ref B) = some b := by
  unfold PySem.W.kitOne
  split
  · rename_i e
    have e2 : Value.ref A = Value.ref B := beq_iff_eq.mp e
    cases b with
    | true => rfl
    | false =>
      have := h rfl
      rw [← e2, this] at s
      cases s
  · show (if ((PySem.W.clsIn K B).isSome && PySem.W.typeIn K (.ref B) == some (.type "type")) = true then PySem.W.subIn K (.ref A) (.ref B) else none) = some b
    have e1 : (PySem.W.clsIn K B).isSome = true := ic
    rw [e1, ty, if_pos (by simp), s]
theorem kit_same {K : PySem.W.Frag} {C : Addr} : PySem.W.kitOne K (.ref C) (.ref C) = some true := by
  unfold PySem.W.kitOne
  rw [if_pos (beq_iff_eq.mpr rfl)]
end Ly

/-! Plain mathematics of boats for one or two: marks, covers, the greedy way. -/
namespace Bp

/-! ### marks and bounds -/
def hv (ws : List Int) (L m : Int) : List Int := ws.filter fun w => decide (L < w + m)
def lg (ws : List Int) (m : Int) : List Int := ws.filter fun w => decide (w < m)
def bnd (ws : List Int) (L m : Int) : Int :=
  ((hv ws L m).length : Int) + (((ws.length : Int) - ((hv ws L m).length : Int) - ((lg ws m).length : Int)) + 1) / 2
def okm (L m : Int) : Prop := 0 ≤ m ∧ 2 * m ≤ L + 1

def gi (L m w : Int) : Int := 1 - (if L < w + m then 1 else 0) + (if w < m then 1 else 0)
theorem gi_nn (L m w : Int) : 0 ≤ gi L m w := by
  unfold gi
  split <;> split <;> omega
theorem gi_two {L m x y : Int} (h : okm L m) (hs : x + y ≤ L) : 2 ≤ gi L m x + gi L m y := by
  obtain ⟨h0, h1⟩ := h
  unfold gi
  split <;> split <;> split <;> split <;> omega
def gsum (L m : Int) (ws : List Int) : Int := (ws.map (gi L m)).sum
theorem gsum_eq (L m : Int) : ∀ ws : List Int, gsum L m ws = (ws.length : Int) - ((hv ws L m).length : Int) + ((lg ws m).length : Int)
  | [] => by simp [gsum, hv, lg]
  | w :: r => by
    have ih := gsum_eq L m r
    have e : gsum L m (w :: r) = gi L m w + gsum L m r := by simp [gsum]
    rw [e, ih]
    unfold gi hv lg
    by_cases a : L < w + m <;> by_cases b : w < m <;> simp [a, b] <;> omega
theorem perm_sum {xs ys : List Int} (h : xs.Perm ys) : xs.sum = ys.sum := by
  induction h with
  | nil => rfl
  | cons x _ ih => rw [List.sum_cons, List.sum_cons, ih]
  | swap x y l =>
    rw [List.sum_cons, List.sum_cons, List.sum_cons, List.sum_cons]
    omega
  | trans _ _ i j => exact i.trans j
theorem gsum_perm {L m : Int} {xs ys : List Int} (h : xs.Perm ys) : gsum L m xs = gsum L m ys := by
  unfold gsum
  exact perm_sum (h.map _)
theorem gsum_app (L m : Int) (xs ys : List Int) : gsum L m (xs ++ ys) = gsum L m xs + gsum L m ys := by
  simp [gsum]

/-- boats of weights that carry all of ws under L -/
structure Cov (ws : List Int) (L : Int) (wb : List (List Int)) : Prop where
  perm : wb.flatten.Perm ws
  fit : ∀ b ∈ wb, (∃ x, b = [x] ∧ x ≤ L) ∨ ∃ x y, b = [x, y] ∧ x + y ≤ L

theorem cov_gsum {L m : Int} (h : okm L m) : ∀ wb : List (List Int), (∀ b ∈ wb, (∃ x, b = [x] ∧ x ≤ L) ∨ ∃ x y, b = [x, y] ∧ x + y ≤ L) →
    2 * (wb.flatten.length : Int) - 2 * (wb.length : Int) ≤ gsum L m wb.flatten
  | [], _ => by simp [gsum]
  | b :: r, hf => by
    have ih := cov_gsum h r (fun c hc => hf c (List.mem_cons_of_mem _ hc))
    rw [List.flatten_cons, gsum_app, List.length_append, List.length_cons]
    rcases hf b (List.mem_cons_self ..) with ⟨x, rfl, hx⟩ | ⟨x, y, rfl, hxy⟩
    · have g := gi_nn L m x
      have e : gsum L m [x] = gi L m x := by simp [gsum]
      rw [e]
      simp only [List.length_cons, List.length_nil]
      omega
    · have g := gi_two h hxy
      have e : gsum L m [x, y] = gi L m x + gi L m y := by simp [gsum]
      rw [e]
      simp only [List.length_cons, List.length_nil]
      omega
theorem weak {ws : List Int} {L m : Int} {wb : List (List Int)} (h : Cov ws L wb) (hm : okm L m) :
    (ws.length : Int) + ((hv ws L m).length : Int) - ((lg ws m).length : Int) ≤ 2 * (wb.length : Int) := by
  have a := cov_gsum hm wb h.fit
  rw [gsum_perm h.perm, gsum_eq, h.perm.length_eq] at a
  omega
theorem bnd_le {ws : List Int} {L m : Int} {wb : List (List Int)} (h : Cov ws L wb) (hm : okm L m) : bnd ws L m ≤ (wb.length : Int) := by
  have a := weak h hm
  unfold bnd
  omega
/-- as few as may be, shown by a mark -/
structure Few (ws : List Int) (L : Int) (k : Nat) : Prop where
  has : ∃ wb, Cov ws L wb ∧ wb.length = k
  mark : ∃ m, okm L m ∧ bnd ws L m = (k : Int)
theorem Few.le {ws : List Int} {L : Int} {k : Nat} (h : Few ws L k) {wb : List (List Int)} (c : Cov ws L wb) : k ≤ wb.length := by
  obtain ⟨m, hm, e⟩ := h.mark
  have := bnd_le c hm
  omega
theorem Few.bnd_le {ws : List Int} {L : Int} {k : Nat} (h : Few ws L k) {m : Int} (hm : okm L m) : bnd ws L m ≤ (k : Int) := by
  obtain ⟨wb, c, e⟩ := h.has
  have := Bp.bnd_le c hm
  omega
theorem Few.uniq {ws : List Int} {L : Int} {k j : Nat} (h : Few ws L k) (h' : Few ws L j) : k = j := by
  obtain ⟨wb, c, e⟩ := h.has
  obtain ⟨wb', c', e'⟩ := h'.has
  have := h.le c'
  have := h'.le c
  omega

/-! ### persons -/
def rng (n : Nat) : List Int := (List.range n).map fun (i : Nat) => (i : Int)
def wt (ws : List Int) (p : Int) : Int := ws.getD p.toNat 0
theorem mem_rng {n : Nat} {p : Int} : p ∈ rng n ↔ 0 ≤ p ∧ p < (n : Int) := by
  unfold rng
  rw [List.mem_map]
  constructor
  · rintro ⟨i, hi, rfl⟩
    rw [List.mem_range] at hi
    omega
  · rintro ⟨h0, h1⟩
    exact ⟨p.toNat, by rw [List.mem_range]; omega, by omega⟩
theorem rng_len (n : Nat) : (rng n).length = n := by simp [rng]
theorem rng_nodup (n : Nat) : (rng n).Nodup := by
  unfold rng
  refine List.Pairwise.map _ (fun a b h => ?_) (List.nodup_range (n := n))
  exact fun e => h (Int.ofNat.inj e)
theorem map_wt_rng (ws : List Int) : (rng ws.length).map (wt ws) = ws := by
  unfold rng
  rw [List.map_map]
  refine List.ext_getElem? fun i => ?_
  rw [List.getElem?_map]
  by_cases h : i < ws.length
  · rw [List.getElem?_range h, List.getElem?_eq_getElem h]
    simp [wt, List.getD, List.getElem?_eq_getElem h]
  · rw [List.getElem?_eq_none (by simp; omega), List.getElem?_eq_none (by omega)]
    rfl
theorem wt_at {ws : List Int} {i : Nat} (h : i < ws.length) : wt ws (i : Int) = ws[i] := by
  simp [wt, List.getD, List.getElem?_eq_getElem h]

/-- boats of persons, as told -/
structure Good (ws : List Int) (L : Int) (bs : List (List Int)) : Prop where
  perm : bs.flatten.Perm (rng ws.length)
  fit : ∀ b ∈ bs, (∃ p, b = [p] ∧ wt ws p ≤ L) ∨ ∃ p q, b = [p, q] ∧ p < q ∧ wt ws p + wt ws q ≤ L
theorem Good.cov {ws : List Int} {L : Int} {bs : List (List Int)} (g : Good ws L bs) : Cov ws L (bs.map (List.map (wt ws))) := by
  refine ⟨?_, fun b hb => ?_⟩
  · have h := g.perm.map (wt ws)
    rw [map_wt_rng, List.map_flatten] at h
    exact h
  · obtain ⟨c, hc, rfl⟩ := List.mem_map.mp hb
    rcases g.fit c hc with ⟨p, rfl, h⟩ | ⟨p, q, rfl, _, h⟩
    · exact .inl ⟨_, rfl, h⟩
    · exact .inr ⟨_, _, rfl, h⟩

/-! ### the greedy way: the lightest low ones and the heaviest from h on are gone -/
structure Gr (ws : List Int) (L : Int) (o : List Int) (lo h : Nat) (bs : List (List Int)) : Prop where
  le : lo ≤ h
  hn : h ≤ o.length
  perm : (bs.flatten ++ (o.drop lo).take (h - lo)).Perm o
  fit : ∀ b ∈ bs, (∃ p, b = [p] ∧ wt ws p ≤ L) ∨ ∃ p q, b = [p, q] ∧ p < q ∧ wt ws p + wt ws q ≤ L
  cnt : bs.length + h = o.length
  rec_ : ∃ K : Nat, (K = o.length ∨ ∃ l k : Nat, ∃ a b : Int, o[l]? = some a ∧ o[k]? = some b ∧ l ≤ k ∧ L < wt ws a + wt ws b ∧ K = k + l) ∧ (h + lo = K ∨ (h = lo ∧ h + lo + 1 = K))

theorem Gr.start (ws : List Int) (L : Int) (o : List Int) : Gr ws L o 0 o.length [] :=
  ⟨Nat.zero_le _, Nat.le_refl _, by simp, by simp, by simp, ⟨o.length, .inl rfl, .inl rfl⟩⟩
theorem seg_cons {α : Type} {o : List α} {lo h : Nat} {a : α} (ha : o[lo]? = some a) (hl : lo < h) : (o.drop lo).take (h - lo) = a :: (o.drop (lo + 1)).take (h - (lo + 1)) := by
  obtain ⟨hlt, e⟩ := List.getElem?_eq_some_iff.mp ha
  rw [List.drop_eq_getElem_cons hlt, e, show h - lo = (h - (lo + 1)) + 1 by omega, List.take_succ_cons]
theorem seg_snoc {α : Type} {o : List α} {lo h : Nat} {b : α} (hb : o[h]? = some b) (hl : lo ≤ h) : (o.drop lo).take (h + 1 - lo) = (o.drop lo).take (h - lo) ++ [b] := by
  rw [show h + 1 - lo = (h - lo) + 1 by omega, List.take_add_one, List.getElem?_drop, show lo + (h - lo) = h by omega, hb]
  rfl
theorem Gr.single {ws : List Int} {L : Int} {o : List Int} {lo h : Nat} {bs : List (List Int)} {b : Int} (g : Gr ws L o lo (h + 1) bs) (hl : lo ≤ h) (hb : o[h]? = some b) (hw : wt ws b ≤ L)
    (hf : lo < h → ∃ a, o[lo]? = some a ∧ L < wt ws a + wt ws b) : Gr ws L o lo h (bs ++ [[b]]) := by
  obtain ⟨g1, g2, g3, g4, g5, K, gK, gE⟩ := g
  refine ⟨hl, by omega, ?_, ?_, by simp; omega, ?_⟩
  · rw [seg_snoc hb hl] at g3
    refine List.Perm.trans ?_ g3
    rw [List.flatten_append]
    simp only [List.flatten_cons, List.flatten_nil, List.append_nil]
    rw [List.append_assoc]
    exact List.Perm.append_left _ (List.perm_append_comm)
  · intro c hc
    rcases List.mem_append.mp hc with hc | hc
    · exact g4 c hc
    · rw [List.mem_singleton] at hc
      subst hc
      exact .inl ⟨b, rfl, hw⟩
  · by_cases e : lo < h
    · obtain ⟨a, ha, hs⟩ := hf e
      exact ⟨h + lo, .inr ⟨lo, h, a, b, ha, hb, by omega, hs, rfl⟩, .inl rfl⟩
    · refine ⟨K, gK, ?_⟩
      rcases gE with gE | gE
      · right; omega
      · omega
theorem Gr.pair {ws : List Int} {L : Int} {o : List Int} {lo h : Nat} {bs : List (List Int)} {a b p q : Int} (g : Gr ws L o lo (h + 1) bs) (hl : lo < h) (ha : o[lo]? = some a) (hb : o[h]? = some b)
    (hw : wt ws a + wt ws b ≤ L) (hpq : (p = a ∧ q = b ∨ p = b ∧ q = a) ∧ p < q) : Gr ws L o (lo + 1) h (bs ++ [[p, q]]) := by
  obtain ⟨g1, g2, g3, g4, g5, K, gK, gE⟩ := g
  refine ⟨hl, by omega, ?_, ?_, by simp; omega, ?_⟩
  · rw [seg_snoc hb (by omega), seg_cons ha hl] at g3
    refine List.Perm.trans ?_ g3
    rw [List.flatten_append]
    simp only [List.flatten_cons, List.flatten_nil, List.append_nil]
    rw [List.append_assoc]
    refine List.Perm.append_left _ ?_
    have e2 : ([p, q] ++ (o.drop (lo + 1)).take (h - (lo + 1))).Perm ([a, b] ++ (o.drop (lo + 1)).take (h - (lo + 1))) := by
      refine List.Perm.append_right _ ?_
      rcases hpq.1 with ⟨rfl, rfl⟩ | ⟨rfl, rfl⟩
      · exact List.Perm.refl _
      · exact List.Perm.swap _ _ _
    refine e2.trans ?_
    simp only [List.cons_append, List.nil_append]
    refine List.Perm.cons _ ?_
    exact (List.perm_append_comm (l₁ := [b]))
  · intro c hc
    rcases List.mem_append.mp hc with hc | hc
    · exact g4 c hc
    · rw [List.mem_singleton] at hc
      subst hc
      refine .inr ⟨p, q, rfl, hpq.2, ?_⟩
      rcases hpq.1 with ⟨rfl, rfl⟩ | ⟨rfl, rfl⟩
      · exact hw
      · omega
  · exact ⟨K, gK, by omega⟩

/-- people in order of their weights -/
structure Ord (ws : List Int) (o : List Int) : Prop where
  perm : o.Perm (rng ws.length)
  up : o.Pairwise fun p q => wt ws p ≤ wt ws q
theorem Ord.len {ws o : List Int} (h : Ord ws o) : o.length = ws.length := by
  rw [h.perm.length_eq, rng_len]
theorem Ord.map {ws o : List Int} (h : Ord ws o) : (o.map (wt ws)).Perm ws := by
  have := h.perm.map (wt ws)
  rw [map_wt_rng] at this
  exact this
theorem Gr.good {ws : List Int} {L : Int} {o : List Int} {lo h : Nat} {bs : List (List Int)} (O : Ord ws o) (g : Gr ws L o lo h bs) (e : h ≤ lo) : Good ws L bs := by
  refine ⟨?_, g.fit⟩
  have p := g.perm
  rw [show h - lo = 0 by omega, List.take_zero, List.append_nil] at p
  exact p.trans O.perm
theorem cnt_ge {P : Int → Bool} {a : List Int} {k : Nat} (h : ∀ (i : Nat) (x : Int), k ≤ i → a[i]? = some x → P x = true) : a.length - k ≤ (a.filter P).length := by
  have e : (a.drop k).filter P = a.drop k := by
    rw [List.filter_eq_self]
    intro x hx
    obtain ⟨i, hi⟩ := List.getElem?_of_mem hx
    rw [List.getElem?_drop] at hi
    exact h (k + i) x (by omega) hi
  have e2 : (a.filter P).length = ((a.take k).filter P).length + ((a.drop k).filter P).length := by
    rw [← List.length_append, ← List.filter_append, List.take_append_drop]
  rw [e2, e, List.length_drop]
  omega
theorem cnt_le {P : Int → Bool} {a : List Int} {l : Nat} (h : ∀ (i : Nat) (x : Int), l ≤ i → a[i]? = some x → P x = false) : (a.filter P).length ≤ l := by
  have e : (a.drop l).filter P = [] := by
    rw [List.filter_eq_nil_iff]
    intro x hx
    obtain ⟨i, hi⟩ := List.getElem?_of_mem hx
    rw [List.getElem?_drop] at hi
    rw [h (l + i) x (by omega) hi]
    exact Bool.false_ne_true
  have e2 : (a.filter P).length = ((a.take l).filter P).length + ((a.drop l).filter P).length := by
    rw [← List.length_append, ← List.filter_append, List.take_append_drop]
  have e3 : ((a.take l).filter P).length ≤ (a.take l).length := List.length_filter_le _ _
  rw [e2, e, List.length_nil]
  rw [List.length_take] at e3
  omega
theorem ord_le {ws o : List Int} (O : Ord ws o) {i j : Nat} {a b : Int} (h : i ≤ j) (ha : o[i]? = some a) (hb : o[j]? = some b) : wt ws a ≤ wt ws b := by
  by_cases e : i = j
  · subst e
    rw [ha] at hb
    cases hb
    exact Int.le_refl _
  · obtain ⟨h1, e1⟩ := List.getElem?_eq_some_iff.mp ha
    obtain ⟨h2, e2⟩ := List.getElem?_eq_some_iff.mp hb
    have := (List.pairwise_iff_getElem.mp O.up) i j h1 h2 (by omega)
    rw [e1, e2] at this
    exact this
theorem len_filter_perm {P : Int → Bool} {a b : List Int} (h : a.Perm b) : (a.filter P).length = (b.filter P).length := (h.filter P).length_eq
/-- a mark at the end of the greedy way: nought, or the limit less a weight and one -/
theorem Gr.mark {ws : List Int} {L : Int} {o : List Int} {lo h : Nat} {bs : List (List Int)} (O : Ord ws o) (g : Gr ws L o lo h bs) (e : h ≤ lo) (hL : 0 ≤ L) (hw : ∀ w ∈ ws, 1 ≤ w ∧ w ≤ L) :
    ∃ m, okm L m ∧ (m = 0 ∨ ∃ w ∈ ws, m = L - w + 1) ∧ bnd ws L m = (bs.length : Int) := by
  have gd := g.good O e
  have cv := gd.cov
  have ln := O.len
  obtain ⟨K, gK, gE⟩ := g.rec_
  have c := g.cnt
  have c0 := g.le
  rcases gK with rfl | ⟨l, k, a, b, ha, hb, hlk, hs, rfl⟩
  · have hm : okm L 0 := ⟨Int.le_refl _, by omega⟩
    refine ⟨0, hm, .inl rfl, ?_⟩
    have a1 := bnd_le cv hm
    rw [List.length_map] at a1
    have z1 : (hv ws L 0).length = 0 := by
      unfold hv
      rw [List.length_eq_zero_iff, List.filter_eq_nil_iff]
      intro w hm
      have := hw w hm
      simp
      omega
    have z2 : (lg ws 0).length = 0 := by
      unfold lg
      rw [List.length_eq_zero_iff, List.filter_eq_nil_iff]
      intro w hm
      have := hw w hm
      simp
      omega
    unfold bnd at a1 ⊢
    rw [z1, z2] at a1 ⊢
    omega
  · have hbm : b ∈ o := List.mem_of_getElem? hb
    have hbw : wt ws b ∈ ws := by
      have := List.mem_map_of_mem (f := wt ws) hbm
      exact O.map.mem_iff.mp this
    have hb1 := hw _ hbw
    have hab := ord_le O hlk ha hb
    have hm : okm L (L - wt ws b + 1) := ⟨by omega, by omega⟩
    refine ⟨_, hm, .inr ⟨_, hbw, rfl⟩, ?_⟩
    have a1 := bnd_le cv hm
    rw [List.length_map] at a1
    have c1 : (o.map (wt ws)).length - k ≤ (hv ws L (L - wt ws b + 1)).length := by
      unfold hv
      rw [← len_filter_perm O.map]
      refine cnt_ge fun i x hi hx => ?_
      rw [List.getElem?_map] at hx
      cases q : o[i]? with
      | none => rw [q] at hx; cases hx
      | some c =>
        rw [q] at hx
        have : x = wt ws c := (Option.some.inj hx).symm
        subst this
        have := ord_le O hi hb q
        exact decide_eq_true (by omega)
    have c2 : (lg ws (L - wt ws b + 1)).length ≤ l := by
      unfold lg
      rw [← len_filter_perm O.map]
      refine cnt_le fun i x hi hx => ?_
      rw [List.getElem?_map] at hx
      cases q : o[i]? with
      | none => rw [q] at hx; cases hx
      | some c =>
        rw [q] at hx
        have : x = wt ws c := (Option.some.inj hx).symm
        subst this
        have := ord_le O hi ha q
        exact decide_eq_false (by omega)
    rw [List.length_map] at c1
    have hk : k < o.length := (List.getElem?_eq_some_iff.mp hb).1
    unfold bnd at a1 ⊢
    omega
end Bp
namespace Bp
theorem flat_half {L : Int} : ∀ {wb : List (List Int)}, (∀ b ∈ wb, (∃ x, b = [x] ∧ x ≤ L) ∨ ∃ x y, b = [x, y] ∧ x + y ≤ L) → wb.flatten.length ≤ 2 * wb.length
  | [], _ => Nat.le_refl _
  | b :: r, h => by
    have ih := flat_half fun c hc => h c (List.mem_cons_of_mem _ hc)
    have : b.length ≤ 2 := by
      rcases h b (List.mem_cons_self ..) with ⟨x, rfl, _⟩ | ⟨x, y, rfl, _⟩ <;> simp
    rw [List.flatten_cons, List.length_append, List.length_cons]
    omega
theorem half_le {ws : List Int} {L : Int} {wb : List (List Int)} (h : Cov ws L wb) : ws.length ≤ 2 * wb.length := by
  rw [← h.perm.length_eq]
  exact flat_half h.fit
end Bp

/-! What an answer shows, as a plain function. -/
namespace Bp
open Ly
def okBoat (ws : List Int) (L : Int) (b : List Int) : Bool := decide (1 ≤ b.length ∧ b.length ≤ 2) && decide (b = srt b) && decide ((b.map (wt ws)).sum ≤ L)
def showsF (ws : List Int) (L : Int) (bs : List (List Int)) (m : Int) : Bool :=
  decide (srt bs.flatten = rng ws.length) && bs.all (okBoat ws L) && decide (0 ≤ m ∧ 2 * m ≤ L + 1) && decide ((bs.length : Int) = bnd ws L m)
def heavyF (ws : List Int) (L p : Int) : Bool := decide (0 ≤ p) && decide (p < (ws.length : Int)) && decide (L < wt ws p)
theorem atI_wt {ws : List Int} {p : Int} (h0 : 0 ≤ p) (h1 : p < (ws.length : Int)) : L2.atI ws p = some (wt ws p) := by
  obtain ⟨n, rfl⟩ := Int.eq_ofNat_of_zero_le h0
  have hn : n < ws.length := by omega
  refine L2.atI_nat ?_
  rw [wt_at hn]
  exact List.getElem?_eq_getElem hn
theorem rng_map (n : Nat) : ((List.range n).map fun (i : Nat) => D.int (i : Int)) = (rng n).map D.int := by
  unfold rng
  rw [List.map_map]
  rfl
theorem rng_up (n : Nat) : (rng n).Pairwise (· ≤ ·) := by
  unfold rng
  refine List.pairwise_map.mpr ?_
  exact List.pairwise_lt_range.imp fun {a b} h => by omega
theorem srt_rng {l : List Int} {n : Nat} : srt l = rng n ↔ l.Perm (rng n) :=
  ⟨fun h => h ▸ (srt_perm l).symm, fun h => (srt_is (h.symm) (rng_up n)).symm⟩
theorem take_flat {bs : List (List Int)} {i : Nat} {b : List Int} (h : bs[i]? = some b) : (bs.take (i + 1)).flatten = (bs.take i).flatten ++ b := by
  rw [List.take_add_one, h, List.flatten_append]
  show _ ++ [b].flatten = _
  rw [List.flatten_cons, List.flatten_nil, List.append_nil]
theorem take_all {α : Type} {bs : List α} {i : Nat} {b : α} {f : α → Bool} (h : bs[i]? = some b) (h1 : (bs.take i).all f = true) (h2 : f b = true) : (bs.take (i + 1)).all f = true := by
  rw [List.take_add_one, h, List.all_append, h1]
  show (true && [b].all f) = true
  rw [Bool.true_and, List.all_cons, h2]
  rfl
theorem not_all {α : Type} {bs : List α} {i : Nat} {b : α} {f : α → Bool} (h : bs[i]? = some b) (h2 : f b = false) : bs.all f = false := by
  rw [List.all_eq_false]
  exact ⟨b, List.mem_of_getElem? h, by rw [h2]; exact Bool.false_ne_true⟩
theorem flat_le {bs : List (List Int)} {i : Nat} {b : List Int} (h : bs[i]? = some b) : (bs.take i).flatten.length + b.length ≤ bs.flatten.length := by
  have e : bs.flatten = (bs.take (i + 1)).flatten ++ (bs.drop (i + 1)).flatten := by
    rw [← List.flatten_append, List.take_append_drop]
  rw [e, take_flat h, List.length_append, List.length_append]
  omega
/-- the answer's own word is about good boats and a mark that shows it -/
theorem okBoat_good {ws : List Int} {L : Int} {b : List Int} (h : (∃ p, b = [p] ∧ wt ws p ≤ L) ∨ ∃ p q, b = [p, q] ∧ p < q ∧ wt ws p + wt ws q ≤ L) : okBoat ws L b = true := by
  unfold okBoat
  rcases h with ⟨p, rfl, h⟩ | ⟨p, q, rfl, h1, h⟩
  · have e : [p] = srt [p] := srt_is (List.Perm.refl _) (List.pairwise_singleton _ _)
    rw [← e]
    simp
    exact h
  · have e : [p, q] = srt [p, q] := srt_is (List.Perm.refl _) (by simp; omega)
    rw [← e]
    simp
    omega
theorem shows_good {ws : List Int} {L m : Int} {bs : List (List Int)} (g : Good ws L bs) (hm : okm L m) (hb : bnd ws L m = (bs.length : Int)) : showsF ws L bs m = true := by
  unfold showsF
  rw [decide_eq_true (srt_rng.mpr g.perm), decide_eq_true (show 0 ≤ m ∧ 2 * m ≤ L + 1 from hm), decide_eq_true hb.symm]
  rw [show bs.all (okBoat ws L) = true from List.all_eq_true.mpr fun b h => okBoat_good (g.fit b h)]
  rfl
end Bp
namespace Bp
theorem Good.flen {ws : List Int} {L : Int} {bs : List (List Int)} (g : Good ws L bs) : bs.flatten.length = ws.length := by
  rw [g.perm.length_eq, rng_len]
theorem len_flat : ∀ {bs : List (List Int)}, (∀ b ∈ bs, 1 ≤ b.length) → bs.length ≤ bs.flatten.length
  | [], _ => Nat.le_refl _
  | b :: r, h => by
    have := len_flat (bs := r) fun c hc => h c (List.mem_cons_of_mem _ hc)
    have := h b (List.mem_cons_self ..)
    rw [List.flatten_cons, List.length_append, List.length_cons]
    omega
theorem Good.blen {ws : List Int} {L : Int} {bs : List (List Int)} (g : Good ws L bs) : bs.length ≤ ws.length := by
  rw [← g.flen]
  refine len_flat fun b hb => ?_
  rcases g.fit b hb with ⟨p, rfl, _⟩ | ⟨p, q, rfl, _⟩ <;> simp
end Bp

/-! The fewest boats over all ways. -/
namespace Bp
open PySem L2 Ly
theorem Cov.perm' {ws ws' : List Int} {L : Int} {wb : List (List Int)} (h : Cov ws L wb) (p : ws.Perm ws') : Cov ws' L wb := ⟨h.perm.trans p, h.fit⟩
theorem Cov.up {ws : List Int} {L L' : Int} {wb : List (List Int)} (h : Cov ws L wb) (l : L ≤ L') : Cov ws L' wb := ⟨h.perm, fun b hb => by
  rcases h.fit b hb with ⟨x, e, h1⟩ | ⟨x, y, e, h1⟩
  · exact .inl ⟨x, e, by omega⟩
  · exact .inr ⟨x, y, e, by omega⟩⟩
theorem Cov.nil {L : Int} : Cov [] L [] := ⟨List.Perm.refl _, fun _ h => by cases h⟩
theorem Cov.one {v : Int} {r : List Int} {L : Int} {wb : List (List Int)} (h : Cov r L wb) (l : v ≤ L) : Cov (v :: r) L ([v] :: wb) := ⟨by
  rw [List.flatten_cons]
  exact h.perm.cons v, fun b hb => by
  rcases List.mem_cons.mp hb with rfl | hb
  · exact .inl ⟨v, rfl, l⟩
  · exact h.fit b hb⟩
theorem Cov.two {v x : Int} {r : List Int} {L : Int} {wb : List (List Int)} (h : Cov r L wb) (l : x + v ≤ L) : Cov (v :: x :: r) L ([x, v] :: wb) := ⟨by
  rw [List.flatten_cons]
  exact (List.Perm.swap v x _).trans ((h.perm.cons x).cons v), fun b hb => by
  rcases List.mem_cons.mp hb with rfl | hb
  · exact .inr ⟨x, v, rfl, l⟩
  · exact h.fit b hb⟩
/-- where one of them sits -/
theorem Cov.split {v : Int} {r : List Int} {L : Int} {wb : List (List Int)} (h : Cov (v :: r) L wb) : (∃ wb', Cov r L wb' ∧ wb'.length + 1 = wb.length) ∨ ∃ x wb', x ∈ r ∧ x + v ≤ L ∧ Cov (r.erase x) L wb' ∧ wb'.length + 1 = wb.length := by
  have hv : v ∈ wb.flatten := h.perm.mem_iff.mpr (List.mem_cons_self ..)
  obtain ⟨b, hb, hvb⟩ := List.mem_flatten.mp hv
  have p1 : wb.Perm (b :: wb.erase b) := List.perm_cons_erase hb
  have p2 : (b ++ (wb.erase b).flatten).Perm (v :: r) := by
    rw [← List.flatten_cons]
    exact p1.symm.flatten.trans h.perm
  have ln : (wb.erase b).length + 1 = wb.length := by
    rw [p1.length_eq, List.length_cons]
  have ft : ∀ c ∈ wb.erase b, (∃ x, c = [x] ∧ x ≤ L) ∨ ∃ x y, c = [x, y] ∧ x + y ≤ L := fun c hc => h.fit c (List.mem_of_mem_erase hc)
  have key : ∀ x, (x :: (wb.erase b).flatten).Perm r → x + v ≤ L → ∃ x wb', x ∈ r ∧ x + v ≤ L ∧ Cov (r.erase x) L wb' ∧ wb'.length + 1 = wb.length := fun x p l =>
    ⟨x, wb.erase b, p.mem_iff.mp (List.mem_cons_self ..), l, ⟨by
      have q := p.erase x
      rw [List.erase_cons_head] at q
      exact q, ft⟩, ln⟩
  rcases h.fit b hb with ⟨x, rfl, h1⟩ | ⟨x, y, rfl, h1⟩
  · have e : v = x := by simpa using hvb
    subst e
    exact .inl ⟨_, ⟨(List.perm_cons v).mp p2, ft⟩, ln⟩
  · have e : v = x ∨ v = y := by simpa using hvb
    rcases e with rfl | rfl
    · exact .inr (key y ((List.perm_cons v).mp p2) (by omega))
    · have p3 : (v :: x :: (wb.erase [x, v]).flatten).Perm (v :: r) := (List.Perm.swap x v _).trans p2
      exact .inr (key x ((List.perm_cons v).mp p3) (by omega))
theorem idx_perm : ∀ {l : List Int} {i : Nat} (h : i < l.length), (l[i] :: l.eraseIdx i).Perm l
  | a :: l, 0, _ => List.Perm.refl _
  | a :: l, i + 1, h => by
    have hi : i < l.length := by simpa using h
    have ih := idx_perm (l := l) (i := i) hi
    exact (List.Perm.swap a l[i] (l.eraseIdx i)).trans (ih.cons a)
/-- fewest over all ways -/
structure MinC (ws : List Int) (L : Int) (k : Nat) : Prop where
  has : ∃ wb, Cov ws L wb ∧ wb.length = k
  le : ∀ wb, Cov ws L wb → k ≤ wb.length
theorem Few.min {ws : List Int} {L : Int} {k : Nat} (h : Few ws L k) : MinC ws L k := ⟨h.has, fun _ c => h.le c⟩
theorem MinC.uniq {ws ws' : List Int} {L : Int} {k j : Nat} (h : MinC ws L k) (p : ws.Perm ws') (h' : MinC ws' L j) : k = j := by
  obtain ⟨wb, c, e⟩ := h.has
  obtain ⟨wb', c', e'⟩ := h'.has
  have := h.le _ (c'.perm' p.symm)
  have := h'.le _ (c.perm' p)
  omega
theorem MinC.up {ws : List Int} {L L' : Int} {k j : Nat} (h : MinC ws L k) (h' : MinC ws L' j) (l : L ≤ L') : j ≤ k := by
  obtain ⟨wb, c, e⟩ := h.has
  have := h'.le _ (c.up l)
  omega
theorem MinC.half {ws : List Int} {L : Int} {k : Nat} (h : MinC ws L k) : ws.length ≤ 2 * k := by
  obtain ⟨wb, c, e⟩ := h.has
  have := half_le c
  omega
theorem MinC.more {ws : List Int} {L v : Int} {k j : Nat} (h : MinC ws L k) (hw : ∀ w ∈ ws, w ≤ L) (hv : v ≤ L) (h' : MinC (ws ++ [v]) L j) : j = k ∨ j = k + 1 := by
  have p : (ws ++ [v]).Perm (v :: ws) := List.perm_append_comm
  have up : j ≤ k + 1 := by
    obtain ⟨wb, c, e⟩ := h.has
    have := h'.le _ ((c.one hv).perm' p.symm)
    rw [List.length_cons] at this
    omega
  have dn : k ≤ j := by
    obtain ⟨wb, c, e⟩ := h'.has
    rcases (c.perm' p).split with ⟨wb', c', e'⟩ | ⟨x, wb', hx, _, c', e'⟩
    · have := h.le _ c'
      omega
    · have := h.le _ ((c'.one (hw x hx)).perm' (List.perm_cons_erase hx).symm)
      rw [List.length_cons] at this
      omega
  omega
/-- the last one's mates, one by one -/
theorem split_last {ws : List Int} {v : Int} {L : Int} {k : Nat} (h0 : ∃ wb, Cov (ws ++ [v]) L wb ∧ wb.length = k) (h1 : ∀ wb, Cov ws L wb → k ≤ 1 + wb.length)
    (h2 : ∀ i x, ws[i]? = some x → x + v ≤ L → ∀ wb, Cov (ws.eraseIdx i) L wb → k ≤ 1 + wb.length) : MinC (ws ++ [v]) L k := ⟨h0, fun wb c => by
  have p : (ws ++ [v]).Perm (v :: ws) := List.perm_append_comm
  rcases (c.perm' p).split with ⟨wb', c', e'⟩ | ⟨x, wb', hx, hl, c', e'⟩
  · have := h1 _ c'
    omega
  · obtain ⟨i, hi, e⟩ := List.mem_iff_getElem.mp hx
    have e2 : ws[i]? = some x := by rw [List.getElem?_eq_getElem hi, e]
    have pe : (ws.erase x).Perm (ws.eraseIdx i) := by
      refine (List.perm_cons x).mp ((List.perm_cons_erase hx).symm.trans ?_)
      subst e
      exact (idx_perm hi).symm
    have := h2 i x e2 hl _ (c'.perm' pe)
    omega⟩
theorem cov_at {ws : List Int} {v x : Int} {L : Int} {i : Nat} {wb : List (List Int)} (hi : ws[i]? = some x) (l : x + v ≤ L) (c : Cov (ws.eraseIdx i) L wb) : Cov (ws ++ [v]) L ([x, v] :: wb) := by
  have p : (ws ++ [v]).Perm (v :: ws) := List.perm_append_comm
  obtain ⟨hl, e⟩ := List.getElem?_eq_some_iff.mp hi
  subst e
  exact (c.two l).perm' (((idx_perm hl).cons v).trans p.symm)
theorem MinC.perm' {ws ws' : List Int} {L : Int} {k : Nat} (h : MinC ws L k) (p : ws.Perm ws') : MinC ws' L k := ⟨by
  obtain ⟨wb, c, e⟩ := h.has
  exact ⟨wb, c.perm' p, e⟩, fun wb c => h.le wb (c.perm' p.symm)⟩
theorem ex_min {P : Nat → Prop} : ∀ n, P n → ∃ k, P k ∧ ∀ j, P j → k ≤ j := fun n => by
  induction n using Nat.strongRecOn with
  | ind n ih =>
    intro h
    by_cases c : ∃ j, j < n ∧ P j
    · obtain ⟨j, l, hj⟩ := c
      exact ih j l hj
    · exact ⟨n, h, fun j hj => by
        by_cases l : j < n
        · exact (c ⟨j, l, hj⟩).elim
        · omega⟩
theorem cov_all {L : Int} : ∀ {ws : List Int}, (∀ w ∈ ws, w ≤ L) → ∃ wb, Cov ws L wb
  | [], _ => ⟨[], Cov.nil⟩
  | v :: r, h => by
    obtain ⟨wb, c⟩ := cov_all (ws := r) fun w hw => h w (List.mem_cons_of_mem _ hw)
    exact ⟨_, c.one (h v (List.mem_cons_self ..))⟩
theorem minC_ex {ws : List Int} {L : Int} (h : ∀ w ∈ ws, w ≤ L) : ∃ k, MinC ws L k := by
  obtain ⟨wb, c⟩ := cov_all h
  obtain ⟨k, ⟨wb', c', e'⟩, m⟩ := ex_min (P := fun k => ∃ wb, Cov ws L wb ∧ wb.length = k) wb.length ⟨wb, c, rfl⟩
  exact ⟨k, ⟨wb', c', e'⟩, fun wb2 c2 => m _ ⟨wb2, c2, rfl⟩⟩
theorem heavy_not {ws : List Int} {L p : Int} (hv : heavyF ws L p = true) (hL : ∀ w ∈ ws, w ≤ L) : False := by
  unfold heavyF at hv
  rw [Bool.and_eq_true, Bool.and_eq_true, decide_eq_true_eq, decide_eq_true_eq, decide_eq_true_eq] at hv
  obtain ⟨n, rfl⟩ := Int.eq_ofNat_of_zero_le hv.1.1
  have hn : n < ws.length := by omega
  have h1 := hv.2
  rw [wt_at hn] at h1
  have h2 : ws[n] ≤ L := hL _ (List.getElem_mem hn)
  omega
theorem good_min {ws : List Int} {L m : Int} {bs : List (List Int)} (g : Good ws L bs) (hm : okm L m) (hb : bnd ws L m = (bs.length : Int)) : MinC ws L bs.length :=
  Few.min ⟨⟨_, g.cov, by rw [List.length_map]⟩, m, hm, hb⟩
theorem max_ex : ∀ {l : List Int}, l ≠ [] → ∃ m, m ∈ l ∧ ∀ y ∈ l, y ≤ m
  | [], h => (h rfl).elim
  | [a], _ => ⟨a, by simp, by simp⟩
  | a :: b :: r, _ => by
    obtain ⟨m, h1, h2⟩ := max_ex (l := b :: r) (by simp)
    by_cases c : a ≤ m
    · refine ⟨m, List.mem_cons_of_mem _ h1, fun y hy => ?_⟩
      rcases List.mem_cons.mp hy with rfl | hy
      · exact c
      · exact h2 y hy
    · refine ⟨a, List.mem_cons_self .., fun y hy => ?_⟩
      rcases List.mem_cons.mp hy with rfl | hy
      · exact Int.le_refl _
      · have := h2 y hy
        omega
theorem cut_init {init : List Int} {v : Int} : cutG (init ++ [v]) none (some (-1)) = init := by
  unfold cutG
  have e : HT.sIx (init ++ [v]).length (init ++ [v]).length (some (-1)) = init.length := by
    show (if (-1 : Int) < 0 then ((-1 : Int) + ((init ++ [v]).length : Int)).toNat else min (-1 : Int).toNat (init ++ [v]).length) = _
    rw [if_pos (by decide), List.length_append]
    simp
    omega
  rw [e]
  show ((init ++ [v]).drop 0).take (init.length - 0) = init
  simp
theorem cut_at {init : List Int} {v : Int} {i : Nat} (h : i < init.length) : cutG (init ++ [v]) none (some (i : Int)) ++ cutG (init ++ [v]) (some ((i : Int) + 1)) (some (-1)) = init.eraseIdx i := by
  have e : HT.sIx (init ++ [v]).length (init ++ [v]).length (some (-1)) = init.length := by
    show (if (-1 : Int) < 0 then ((-1 : Int) + ((init ++ [v]).length : Int)).toNat else min (-1 : Int).toNat (init ++ [v]).length) = _
    rw [if_pos (by decide), List.length_append]
    simp
    omega
  have e2 : HT.sIx (init ++ [v]).length (init ++ [v]).length (some (i : Int)) = i := by
    rw [HT.sIx_nat, List.length_append]
    simp
    omega
  have e3 : HT.sIx (init ++ [v]).length 0 (some ((i : Int) + 1)) = i + 1 := by
    rw [show (i : Int) + 1 = ((i + 1 : Nat) : Int) by omega, HT.sIx_nat, List.length_append]
    simp
    omega
  unfold cutG
  rw [e, e2, e3, List.eraseIdx_eq_take_drop_succ]
  show ((init ++ [v]).drop 0).take (i - 0) ++ ((init ++ [v]).drop (i + 1)).take (init.length - (i + 1)) = _
  rw [List.drop_zero, Nat.sub_zero, List.take_append_of_le_length (by omega), List.drop_append_of_le_length (by omega), List.take_append_of_le_length (by rw [List.length_drop]; omega), List.take_of_length_le (l := init.drop (i + 1)) (by rw [List.length_drop]; omega)]
end Bp

/-! How many ways. -/
namespace Bp
open PySem L2 Ly
def grF (ws : List Int) (L : Int) : List Int := (srt (ws.filter fun w => decide (2 * w > L))).reverse
def smF (ws : List Int) (L : Int) : List Int := ws.filter fun w => decide (2 * w ≤ L)
def ctS (L : Int) (s : List Int) (v : Int) : List Int := s.filter fun w => decide (w + v ≤ L)
def prG (L : Int) (s : List Int) : List Int → Nat → Int
  | [], _ => 1
  | v :: r, t => max 0 (((ctS L s v).length : Int) - (t : Int)) * prG L s r (t + 1)
def oddF : Nat → Int
  | 0 => 1
  | 1 => 1
  | n + 2 => ((n : Int) + 1) * oddF n
def wayF (ws : List Int) (L : Int) : Int := if ((smF ws L).length : Int) - ((grF ws L).length : Int) < 0 ∨ (((smF ws L).length : Int) - ((grF ws L).length : Int)) % 2 = 1 then 0 else prG L (smF ws L) (grF ws L) 0 * oddF ((smF ws L).length - (grF ws L).length)
theorem oddF_two (n : Nat) : oddF (n + 2) = ((n : Int) + 1) * oddF n := rfl
theorem oddF_low : ∀ {k : Nat}, k ≤ 1 → oddF k = 1
  | 0, _ => rfl
  | 1, _ => rfl
theorem grF_len (ws : List Int) (L : Int) : (grF ws L).length ≤ ws.length := by
  unfold grF
  rw [List.length_reverse, (srt_perm _).length_eq]
  exact List.length_filter_le _ _
theorem prG_snoc {L : Int} {s : List Int} {v : Int} : ∀ (l : List Int) (t : Nat), prG L s (l ++ [v]) t = prG L s l t * max 0 (((ctS L s v).length : Int) - ((t + l.length : Nat) : Int))
  | [], t => by
    show max 0 (((ctS L s v).length : Int) - (t : Int)) * 1 = 1 * max 0 (((ctS L s v).length : Int) - ((t + 0 : Nat) : Int))
    rw [Int.mul_one, Int.one_mul, Nat.add_zero]
  | a :: l, t => by
    show max 0 (((ctS L s a).length : Int) - (t : Int)) * prG L s (l ++ [v]) (t + 1) = max 0 (((ctS L s a).length : Int) - (t : Int)) * prG L s l (t + 1) * max 0 (((ctS L s v).length : Int) - ((t + (l.length + 1) : Nat) : Int))
    rw [prG_snoc l (t + 1), Int.mul_assoc, show t + 1 + l.length = t + (l.length + 1) by omega]
end Bp

/-! The layer, tenth part: max of a list of whole numbers with a default. -/
namespace Ly
open PySem L2 PyProof.Rows
section
variable {prog : Program} {w : World} {A : Around} {Rz : Result → Shared → Prop} {it : Addr} {fp wr : List Addr} {n : Nat} {P : Nat → Value → Prop} {St : Nat → Heap → Prop} {f : Nat → Int}
/-- the best of the first j, as the box holds it -/
def Boxed (P : Nat → Value → Prop) (f : Nat → Int) (j : Nat) (old : Array Value) : Prop := (j = 0 ∧ old = #[]) ∨ ∃ b u, b < j ∧ P b u ∧ (∀ i, i < j → f i ≤ f b) ∧ old = #[u, u]
theorem maxd_loop (W : Walks prog w A.in1 it fp wr n P St) (hc : CmpOf prog w A.in1 .Gt P (fun i j => decide (f i > f j))) {bx : Addr} (nb : bx ∉ fp) {d : Value} : ∀ (m j : Nat) (s : Shared) (old : Array Value) (c : Nat), n - j = m → j ≤ n → St j s.heap → Boxed P f j old →
    s.heap.get? bx = some { cls := .type "list", dict := none, data := .seq old c, slots := #[] } →
    (∀ v h' tk, ((n = 0 ∧ v = d) ∨ ∃ b, b < n ∧ P b v ∧ ∀ i, i < n → f i ≤ f b) → (∀ a o, a ∉ wr → a ≠ bx → s.heap.get? a = some o → h'.get? a = some o) → Rz (.ok (.ret v)) { s with heap := h', toks := tk }) →
    codeAny (model prog w) A (.builtin "max.loop" ⟨[.ref it, .none, .ref bx], [(("default" : Str), d)]⟩) Rz s := by
  have nw : bx ∉ wr := fun z => nb (W.sub _ z)
  have nm : (toString "max" ++ toString ".loop" : String) = "max.loop" := by decide
  intro m
  induction m with
  | zero =>
    intro j s old c hm hj hSt hold hbx hres
    have e : j = n := by omega
    subst e
    apply codeAny_builtin F.entry_max_loop
    rw [Around.under_plainId F.plain_max_loop]
    show wpAny _ A.in1 (seqItems? (.ref bx) >>= _) _ _ s
    apply wpAny_bind (wpAny_seqItems hbx rfl _)
    show wpAny _ A.in1 (tryCatch (pyNext (.ref it)) _ >>= _) _ _ s
    apply wpAny_bind (wpAny_tryCatch (W.done s _ _ hSt fun h' tk kk => _))
    intro h' tk kk
    have hbx2 := kk bx _ nw hbx
    rcases hold with ⟨rfl, rfl⟩ | ⟨b, u, hb, hu, best, rfl⟩
    · exact wpAny_bind (wpAny_rule (wpAny_pure (hres d h' tk (.inl ⟨rfl, rfl⟩) fun a o z _ q => kk a o z q)))
    · show wpAny _ A.in1 (updateSeq bx (fun _ => #[]) >>= _) _ _ _
      apply wpAny_bind
      exact wpAny_updateSeq hbx2 rfl (wpAny_bind (wpAny_letGo (wpAny_pure (hres u _ tk (.inr ⟨b, hb, hu, best⟩) fun a o z1 z2 q => (Heap.get?_update_other _ _ (Ne.symm z2)).trans (kk a o z1 q)))))
  | succ m ih =>
    intro j s old c hm hj hSt hold hbx hres
    have lt : j < n := by omega
    apply codeAny_builtin F.entry_max_loop
    rw [Around.under_plainId F.plain_max_loop]
    show wpAny _ A.in1 (seqItems? (.ref bx) >>= _) _ _ s
    apply wpAny_bind (wpAny_seqItems hbx rfl _)
    show wpAny _ A.in1 (tryCatch (pyNext (.ref it)) _ >>= _) _ _ s
    apply wpAny_bind (wpAny_tryCatch (W.item j s _ _ lt hSt fun v h' tk hv hSt2 kk => _))
    intro v h' tk hv hSt2 kk
    have hbx2 := kk bx _ nw hbx
    rcases hold with ⟨rfl, rfl⟩ | ⟨b, u, hb, hu, best, rfl⟩
    · show wpAny _ A.in1 (updateSeq bx (fun _ => #[v, v]) >>= _) _ _ _
      apply wpAny_bind
      apply wpAny_updateSeq hbx2 rfl
      rw [nm]
      apply wpAny_pure
      refine ⟨plainId_quiet F.plain_max_loop _, ih 1 _ #[v, v] _ (by omega) lt (W.frame _ _ _ hSt2 fun a z o q => (Heap.get?_update_other _ _ (fun y : bx = a => nb (y ▸ z))).trans q) ?_ (Heap.get?_update_self _ hbx2 rfl) fun v2 h2 tk2 hv2 kk2 => hres v2 h2 tk2 hv2 fun a o z1 z2 q => kk2 a o z1 z2 ((Heap.get?_update_other _ _ (Ne.symm z2)).trans (kk a o z1 q))⟩
      exact .inr ⟨0, v, Nat.zero_lt_one, hv, fun i hi => by rw [show i = 0 by omega]; exact Int.le_refl _, rfl⟩
    · show wpAny _ A.in1 (tryCatch (holding [v, v] (richCompare .Gt v u >>= _)) _ >>= _) _ _ _
      apply wpAny_bind
      apply wpAny_tryCatch
      apply wpAny_holding
      apply wpAny_bind (hc j b v u _ _ _ hv hu _)
      apply wpAny_bind
      apply wpAny_holding
      apply wpAny_truthy_bool
      apply wpAny_bind
      apply wpAny_letGo
      apply wpAny_pure
      cases gt : decide (f j > f b) with
      | true =>
        simp only [gt, if_true]
        rw [decide_eq_true_eq] at gt
        apply wpAny_bind
        apply wpAny_updateSeq hbx2 rfl
        apply wpAny_bind
        apply wpAny_letGo
        rw [nm]
        apply wpAny_pure
        refine ⟨plainId_quiet F.plain_max_loop _, ih (j + 1) _ #[v, v] _ (by omega) lt (W.frame _ _ _ hSt2 fun a z o q => (Heap.get?_update_other _ _ (fun y : bx = a => nb (y ▸ z))).trans q) ?_ (Heap.get?_update_self _ hbx2 rfl) fun v2 h2 tk2 hv2 kk2 => hres v2 h2 tk2 hv2 fun a o z1 z2 q => kk2 a o z1 z2 ((Heap.get?_update_other _ _ (Ne.symm z2)).trans (kk a o z1 q))⟩
        refine .inr ⟨j, v, Nat.lt_succ_self j, hv, fun i hi => ?_, rfl⟩
        by_cases e : i = j
        · rw [e]
          exact Int.le_refl _
        · have := best i (by omega)
          omega
      | false =>
        simp only [gt, Bool.false_eq_true, if_false]
        rw [decide_eq_false_iff_not] at gt
        apply wpAny_bind
        apply wpAny_letGo
        rw [nm]
        apply wpAny_pure
        refine ⟨plainId_quiet F.plain_max_loop _, ih (j + 1) _ #[u, u] c (by omega) lt hSt2 ?_ hbx2 fun v2 h2 tk2 hv2 kk2 => hres v2 h2 tk2 hv2 fun a o z1 z2 q => kk2 a o z1 z2 (kk a o z1 q)⟩
        refine .inr ⟨b, u, by omega, hu, fun i hi => ?_, rfl⟩
        by_cases e : i = j
        · rw [e]
          omega
        · exact best i (by omega)
end
section
variable {P : Program} {w : World} {A : Around} {E : Value → Shared → Prop} {s : Shared}
theorem maxd_args (a d : Value) : argsOk "max" ⟨[a], [(("default" : Str), d)]⟩ := by
  unfold argsOk
  kernel_rfl
theorem maxd_call {a d : Value} {Q : Value → Shared → Prop} (hc : wpAny (model P w) A.in1 (Builtin.«max» ⟨[a], [(("default" : Str), d)]⟩) (fun fin t => match fin with
    | .done fl => (match (Except.ok fl : Result) with | .ok (.ret v) => Q v t | .ok _ => False | .error x => E x t)
    | .again co => co.quiet = true ∧ codeAny (model P w) A co (fun res t => match res with | .ok (.ret v) => Q v t | .ok _ => False | .error x => E x t) t) E s) :
    wpAny (model P w) A (call (.builtin "max") [a] [(("default" : Str), d)]) Q E s := by
  apply wpAny_call
  apply codeAny_call_builtin F.plain_max F.entry_max
  simp only [checkBuiltinCall, F.kind_max]
  cases sg : Manifest.signature? "max" with
  | none => exact wpAny_pure hc
  | some si =>
    have ha := maxd_args a d
    simp only [argsOk, sg] at ha
    have h2 : Bind.checkArgs "max" si ⟨[a], [(("default" : Str), d)]⟩ = pure () := ha
    show wpAny _ A.in1 (Bind.checkArgs "max" si ⟨[a], [(("default" : Str), d)]⟩) _ _ s
    rw [h2]
    exact wpAny_pure hc
theorem maxd_ints {l : Addr} {xs : Array (Int × Tok)} {d : Value} {Q : Value → Shared → Prop} (hh : A.handled = none) (hl : s.heap.IsList l (intItems xs))
    (h : ∀ v h' tk, ((xs.size = 0 ∧ v = d) ∨ ∃ b, b < xs.size ∧ (intItems xs)[b]? = some v ∧ ∀ i, i < xs.size → numAt xs i ≤ numAt xs b) → (∀ a o, s.heap.get? a = some o → h'.get? a = some o) → Q v { s with heap := h', toks := tk }) :
    wpAny (model P w) A (call (.builtin "max") [.ref l] [(("default" : Str), d)]) Q E s := by
  have nm : (toString "max" ++ toString ".loop" : String) = "max.loop" := by decide
  apply maxd_call
  show wpAny _ A.in1 (Builtin.Builtins.bindParams "max" ["key", "default"] 0 ⟨[], [(("default" : Str), d)]⟩ >>= _) _ _ s
  apply wpAny_bind
  apply wpAny_of_eq (show Builtin.Builtins.bindParams "max" ["key", "default"] 0 ⟨[], [(("default" : Str), d)]⟩ = pure [none, some d] from rfl)
  apply wpAny_bind
  apply wpAny_pure
  apply wpAny_bind
  apply iter_intList hl
  intro s2 e st hfp hlI
  have lt2 : s.heap.objs.size ∉ [s2.heap.objs.size] := by
    subst e
    rw [Heap.size_push]
    simp
  apply wpAny_bind
  refine wpAny_newObj_type ?_
  rw [nm]
  apply wpAny_pure
  have nb : s2.heap.objs.size ∉ [s.heap.objs.size, l] := fun z => Nat.lt_irrefl _ (hfp _ z)
  have W := Walks.list (prog := P) (w := w) (A := A.in1) hh s.heap.objs.size l hlI (intItems xs)
  refine ⟨plainId_quiet F.plain_max_loop _, maxd_loop (f := numAt xs) W (CmpOf.ints_gt (numAt xs) fun _ _ => intItems_at) nb _ 0 _ #[] _ rfl (Nat.zero_le _) (W.frame _ _ _ st fun a _ o q => Heap.get?_push_of_some _ q) (.inl ⟨rfl, rfl⟩) (Heap.get?_push_size _ rfl) fun v h' tk hv kk => ?_⟩
  have sz : (intItems xs).size = xs.size := by simp [intItems]
  rw [sz] at hv
  have r := h v h' tk hv fun a o q => by
    have la := Heap.lt_size q
    have q2 : s2.heap.get? a = some o := by
      subst e
      exact Heap.get?_push_of_some _ q
    exact kk a o (fun z => Nat.ne_of_lt la (List.mem_singleton.mp z)) (Nat.ne_of_lt (Heap.lt_size q2)) (Heap.get?_push_of_some _ q2)
  subst e
  exact r
end
section
variable {X : Cx}
/-- max(xs, default=d) of a list of ints -/
def rMaxD (K : PySem.W.Frag) : List V → List V → Hp → VK → Prop := fun vs zs H Q => ∃ (a : Addr) (ns : List Int) (d : Int), vs = [V.ref a] ∧ zs = [V.int d] ∧ SqL K H a (ns.map V.int) ∧ ∀ m, ((ns = [] ∧ m = d) ∨ (m ∈ ns ∧ ∀ y, y ∈ ns → y ≤ m)) → Q (.int m) H
theorem cr_maxD (hc : X.calm = true) : CallRK X (.builtin "max") [("default" : Str)] (rMaxD X.K) := by
  intro pins s σ H vs zs us ws Q I r rz h
  obtain ⟨a, ns, d, rfl, rfl, hs, q⟩ := h
  obtain ⟨its, rv, hl, _⟩ := I.list hs
  have hi := rv.ints
  have hl := hl.isList
  rw [Vals.ref1 r]
  obtain ⟨w1, rfl, e1⟩ := vals1 rz
  obtain ⟨t1, rfl⟩ := e1
  obtain ⟨xs, e⟩ := hi.allInts.items
  have hn : numsOf (intItems xs).toList = ns := by rw [← e]; exact hi.numsOf
  rw [nums_intItems] at hn
  subst hn
  rw [e] at hl
  refine maxd_ints (I.ok.hd hc) hl fun v h' tk hv hk => ?_
  rcases hv with ⟨z, rfl⟩ | ⟨b, hb, hv, best⟩
  · exact ⟨.int _, H, I.kept hk, ⟨_, rfl⟩, q d (.inl ⟨by
      have : xs.toList.length = 0 := by rw [Array.length_toList, z]
      rw [List.length_eq_zero_iff.mp this]
      rfl, rfl⟩)⟩
  · obtain ⟨t, rfl⟩ := intItems_at hv
    refine ⟨.int _, H, I.kept hk, ⟨_, rfl⟩, q _ (.inr ⟨?_, fun y hy => ?_⟩)⟩
    · rw [numAt_eq]
      exact PySem.getD_mem (by rw [List.length_map, Array.length_toList]; exact hb)
    · obtain ⟨j, hj, rfl⟩ := mem_getD hy
      rw [List.length_map, Array.length_toList] at hj
      rw [← numAt_eq]
      exact best j hj
end
section
variable {K : PySem.W.Frag} {Γ : Gm} {ta tb : TE}
theorem ed_maxD {ns : List Int} {d m : Int} (h : Ed K ta Γ (il ns)) (hb : Ed K tb Γ (.int d)) (hm : (ns = [] ∧ m = d) ∨ (m ∈ ns ∧ ∀ y ∈ ns, y ≤ m)) : Ed K (tCKw (rMaxD K) (tCons ta tNil) (tCons tb tNil)) Γ (.int m) := fun B S σ H k Q q =>
  h B S σ H k _ fun v H1 e1 d1 => hb B S σ H1 (k.mono e1) _ fun u H2 e2 d2 => by
    obtain ⟨a, rfl, h1⟩ := da_il (d1.mono (hs_mono e2))
    refine ⟨a, ns, d, rfl, by rw [da_int d2], sql h1, fun m' h' => ?_⟩
    have e : m' = m := by
      rcases h' with ⟨z, rfl⟩ | ⟨h2, h3⟩
      · rcases hm with ⟨_, e⟩ | ⟨h4, _⟩
        · exact e.symm
        · rw [z] at h4
          cases h4
      · rcases hm with ⟨z, _⟩ | ⟨h4, h5⟩
        · rw [z] at h2
          cases h2
        · exact Int.le_antisymm (h5 _ h2) (h3 _ h4)
    rw [e]
    exact q _ H2 (e1.trans e2) (.int _)
end
end Ly

/-! The least limit by which so many boats do. -/
namespace Bp
open PySem L2 Ly
def Feas (ws : List Int) (L : Int) (b : Int) : Prop := (∀ w ∈ ws, w ≤ L) ∧ ∃ wb, Cov ws L wb ∧ (wb.length : Int) ≤ b
theorem Feas.perm' {ws ws' : List Int} {L b : Int} (h : Feas ws L b) (p : ws.Perm ws') : Feas ws' L b := ⟨fun w hw => h.1 w (p.mem_iff.mpr hw), by
  obtain ⟨wb, c, e⟩ := h.2
  exact ⟨wb, c.perm' p, e⟩⟩
theorem Cov.app {r s : List Int} {L : Int} {wb wc : List (List Int)} (h : Cov r L wb) (h' : Cov s L wc) : Cov (r ++ s) L (wb ++ wc) := ⟨by
  rw [List.flatten_append]
  exact h.perm.append h'.perm, fun b hb => by
  rcases List.mem_append.mp hb with hb | hb
  · exact h.fit b hb
  · exact h'.fit b hb⟩
theorem cov_ones {L : Int} : ∀ {ws : List Int}, (∀ w ∈ ws, w ≤ L) → ∃ wb, Cov ws L wb ∧ wb.length = ws.length
  | [], _ => ⟨[], Cov.nil, rfl⟩
  | v :: r, h => by
    obtain ⟨wb, c, e⟩ := cov_ones (ws := r) fun w hw => h w (List.mem_cons_of_mem _ hw)
    exact ⟨_, c.one (h v (List.mem_cons_self ..)), by rw [List.length_cons, List.length_cons, e]⟩
theorem fold_cov {L : Int} : ∀ (k : Nat) (r : List Int), r.length = 2 * k → (∀ i x y, i < k → r[i]? = some x → r[2 * k - 1 - i]? = some y → x + y ≤ L) → ∃ wb, Cov r L wb ∧ wb.length = k
  | 0, r, hl, _ => by
    have : r = [] := List.length_eq_zero_iff.mp (by omega)
    subst this
    exact ⟨[], Cov.nil, rfl⟩
  | k + 1, r, hl, h => by
    obtain ⟨a, r1, rfl⟩ : ∃ a r1, r = a :: r1 := by
      cases r with
      | nil => simp at hl
      | cons a r1 => exact ⟨a, r1, rfl⟩
    have n1 : r1 ≠ [] := fun z => by
      subst z
      simp at hl
      omega
    obtain ⟨mid, b, rfl⟩ : ∃ mid b, r1 = mid ++ [b] := ⟨r1.dropLast, r1.getLast n1, (List.dropLast_concat_getLast n1).symm⟩
    have ml : mid.length = 2 * k := by
      simp at hl
      omega
    obtain ⟨wb, c, e⟩ := fold_cov k mid ml fun i x y hi hx hy => by
      refine h (i + 1) x y (by omega) ?_ ?_
      · rw [List.getElem?_cons_succ, List.getElem?_append_left (by omega)]
        exact hx
      · rw [show 2 * (k + 1) - 1 - (i + 1) = (2 * k - 1 - i) + 1 by omega, List.getElem?_cons_succ, List.getElem?_append_left (by omega)]
        exact hy
    have s : a + b ≤ L := by
      refine h 0 a b (by omega) rfl ?_
      rw [show 2 * (k + 1) - 1 - 0 = 2 * k + 1 by omega, List.getElem?_cons_succ, List.getElem?_append_right (by omega), ml, Nat.sub_self]
      rfl
    refine ⟨[a, b] :: wb, (c.two s).perm' ?_, by rw [List.length_cons, e]⟩
    exact (List.Perm.swap a b mid).trans (((List.perm_append_comm (l₁ := [b]) (l₂ := mid))).cons a)
/-- the sums and the heaviest -/
def lstL (o : List Int) (k : Nat) : List Int := cutG o (some (-1)) none ++ (List.range k).map fun i => o.getD i 0 + o.getD (2 * k - 1 - i) 0
def mxD : List Int → Int
  | [] => 0
  | [a] => a
  | a :: b :: r => max a (mxD (b :: r))
theorem mxD_is : ∀ l : List Int, (l = [] ∧ mxD l = 0) ∨ (mxD l ∈ l ∧ ∀ y ∈ l, y ≤ mxD l)
  | [] => .inl ⟨rfl, rfl⟩
  | [a] => .inr ⟨by simp [mxD], by simp [mxD]⟩
  | a :: b :: r => .inr (by
    rcases mxD_is (b :: r) with ⟨z, _⟩ | ⟨h1, h2⟩
    · cases z
    · show max a (mxD (b :: r)) ∈ a :: b :: r ∧ ∀ y ∈ a :: b :: r, y ≤ max a (mxD (b :: r))
      refine ⟨?_, fun y hy => ?_⟩
      · by_cases c : a ≤ mxD (b :: r)
        · rw [Int.max_eq_right c]
          exact List.mem_cons_of_mem _ h1
        · rw [Int.max_eq_left (by omega)]
          exact List.mem_cons_self ..
      · rcases List.mem_cons.mp hy with rfl | hy
        · omega
        · have := h2 y hy
          omega)
def lstK (ws : List Int) (b : Int) : Nat := (max 0 ((ws.length : Int) - b)).toNat
def lstF (ws : List Int) (b : Int) : Int := mxD (lstL (srt ws) (lstK ws b))
theorem cut_last {init : List Int} {v : Int} : cutG (init ++ [v]) (some (-1)) none = [v] := by
  unfold cutG
  have e : HT.sIx (init ++ [v]).length 0 (some (-1)) = init.length := by
    show (if (-1 : Int) < 0 then ((-1 : Int) + ((init ++ [v]).length : Int)).toNat else min (-1 : Int).toNat (init ++ [v]).length) = _
    rw [if_pos (by decide), List.length_append]
    simp
    omega
  rw [e]
  show ((init ++ [v]).drop init.length).take ((init ++ [v]).length - init.length) = [v]
  simp
theorem last_top {o : List Int} (up : o.Pairwise (· ≤ ·)) (h : o ≠ []) : ∃ v, cutG o (some (-1)) none = [v] ∧ v ∈ o ∧ ∀ w ∈ o, w ≤ v := by
  obtain ⟨init, v, rfl⟩ : ∃ init v, o = init ++ [v] := ⟨o.dropLast, o.getLast h, (List.dropLast_concat_getLast h).symm⟩
  refine ⟨v, cut_last, by simp, fun w hw => ?_⟩
  rcases List.mem_append.mp hw with hw | hw
  · exact (List.pairwise_append.mp up).2.2 w hw v (by simp)
  · rw [List.mem_singleton.mp hw]
    exact Int.le_refl _
theorem lstL_top {ws : List Int} {b : Int} : ∀ w ∈ ws, w ≤ lstF ws b := fun w hw => by
  have hw2 : w ∈ srt ws := (srt_perm ws).mem_iff.mpr hw
  obtain ⟨v, e, hv, top⟩ := last_top (srt_up ws) (List.ne_nil_of_mem hw2)
  unfold lstF
  have mem : v ∈ lstL (srt ws) (lstK ws b) := by
    unfold lstL
    rw [e]
    simp
  rcases mxD_is (lstL (srt ws) (lstK ws b)) with ⟨z, _⟩ | ⟨_, h2⟩
  · rw [z] at mem
    cases mem
  · have := h2 v mem
    have := top w hw2
    omega
theorem lstK_le {ws : List Int} {b : Int} (hb : (ws.length : Int) ≤ 2 * b) : 2 * lstK ws b ≤ ws.length := by
  unfold lstK
  omega
theorem lst_feas {ws : List Int} {b : Int} (hb : (ws.length : Int) ≤ 2 * b) : Feas ws (lstF ws b) b := by
  refine ⟨lstL_top, ?_⟩
  have kl := lstK_le hb
  have sl : (srt ws).length = ws.length := (srt_perm ws).length_eq
  obtain ⟨wb, c, e⟩ := fold_cov (L := lstF ws b) (lstK ws b) ((srt ws).take (2 * lstK ws b)) (by rw [List.length_take]; omega) fun i x y hi hx hy => by
    rw [List.getElem?_take_of_lt (by omega)] at hx hy
    have mem : x + y ∈ lstL (srt ws) (lstK ws b) := by
      unfold lstL
      refine List.mem_append_right _ (List.mem_map.mpr ⟨i, List.mem_range.mpr hi, ?_⟩)
      rw [List.getD_eq_getElem?_getD, List.getD_eq_getElem?_getD, hx, hy]
      rfl
    unfold lstF
    rcases mxD_is (lstL (srt ws) (lstK ws b)) with ⟨z, _⟩ | ⟨_, h2⟩
    · rw [z] at mem
      cases mem
    · exact h2 _ mem
  obtain ⟨wc, c2, e2⟩ := cov_ones (L := lstF ws b) (ws := (srt ws).drop (2 * lstK ws b)) fun w hw => lstL_top w ((srt_perm ws).mem_iff.mp (List.mem_of_mem_drop hw))
  have ca := c.app c2
  rw [List.take_append_drop] at ca
  refine ⟨_, ca.perm' (srt_perm ws), ?_⟩
  rw [List.length_append, e, e2, List.length_drop, sl]
  unfold lstK at *
  omega
theorem bnd_perm {ws ws' : List Int} (p : ws.Perm ws') {L m : Int} : bnd ws L m = bnd ws' L m := by
  unfold bnd hv lg
  rw [p.length_eq, len_filter_perm p, len_filter_perm (P := fun w => decide (w < m)) p]
theorem up_at {o : List Int} (up : o.Pairwise (· ≤ ·)) {i j : Nat} {x y : Int} (h : i ≤ j) (hx : o[i]? = some x) (hy : o[j]? = some y) : x ≤ y := by
  by_cases e : i = j
  · subst e
    rw [hx] at hy
    cases hy
    exact Int.le_refl _
  · obtain ⟨hi, rfl⟩ := List.getElem?_eq_some_iff.mp hx
    obtain ⟨hj, rfl⟩ := List.getElem?_eq_some_iff.mp hy
    exact (List.pairwise_iff_getElem.mp up) i j hi hj (by omega)
/-- by less they don't do -/
theorem lst_not {ws : List Int} {b L : Int} (hb : (ws.length : Int) ≤ 2 * b) (h0 : 0 ≤ L) (hL : L < lstF ws b) : ¬ Feas ws L b := by
  rintro ⟨hw, wb, c, hc⟩
  have kl := lstK_le hb
  have sl : (srt ws).length = ws.length := (srt_perm ws).length_eq
  have up := srt_up ws
  unfold lstF at hL
  rcases mxD_is (lstL (srt ws) (lstK ws b)) with ⟨_, z⟩ | ⟨h1, _⟩
  · omega
  · generalize mxD (lstL (srt ws) (lstK ws b)) = M at *
    unfold lstL at h1
    rcases List.mem_append.mp h1 with h1 | h1
    · have := hw M ((srt_perm ws).mem_iff.mp (cutG_mem h1))
      omega
    · obtain ⟨i, hi, rfl⟩ := List.mem_map.mp h1
      rw [List.mem_range] at hi
      have li : i < (srt ws).length := by omega
      have lj : 2 * lstK ws b - 1 - i < (srt ws).length := by omega
      have ei : (srt ws)[i]? = some (srt ws)[i] := List.getElem?_eq_getElem li
      have ej : (srt ws)[2 * lstK ws b - 1 - i]? = some (srt ws)[2 * lstK ws b - 1 - i] := List.getElem?_eq_getElem lj
      rw [List.getD_eq_getElem?_getD, List.getD_eq_getElem?_getD, ei, ej] at hL
      replace hL : L < (srt ws)[i] + (srt ws)[2 * lstK ws b - 1 - i] := hL
      generalize (srt ws)[i] = x at *
      generalize (srt ws)[2 * lstK ws b - 1 - i] = y at *
      have hk : (lstK ws b : Int) = (ws.length : Int) - b := by
        unfold lstK at *
        omega
      have fin : ∀ m, okm L m → (ws.length : Int) - b + ((ws.length : Int)) - (lstK ws b : Int) ≥ 0 → bnd (srt ws) L m ≤ b := fun m hm _ => by
        have := bnd_le c hm
        rw [bnd_perm (srt_perm ws)]
        omega
      have x0 : 0 ≤ x ∨ x < 0 := by omega
      by_cases o2 : 2 * x ≤ L + 1
      · by_cases x1 : 0 ≤ x
        · have bb := fin x ⟨x1, o2⟩ (by omega)
          have h1 := cnt_ge (P := fun w => decide (L < w + x)) (a := srt ws) (k := 2 * lstK ws b - 1 - i) fun l z hl hz => by
            have := up_at up hl ej hz
            exact decide_eq_true (by omega)
          have h2 := cnt_le (P := fun w => decide (w < x)) (a := srt ws) (l := i) fun l z hl hz => by
            have := up_at up hl ei hz
            exact decide_eq_false (by omega)
          unfold bnd hv lg at bb
          omega
        · have h3 := up_at up (show i ≤ 2 * lstK ws b - 1 - i by omega) ei ej
          have h4 := hw y ((srt_perm ws).mem_iff.mp (List.mem_of_getElem? ej))
          omega
      · have hm : okm L ((L + 1) / 2) := ⟨by omega, by omega⟩
        have bb := fin ((L + 1) / 2) hm (by omega)
        have h1 := cnt_ge (P := fun w => decide (L < w + (L + 1) / 2)) (a := srt ws) (k := i) fun l z hl hz => by
          have := up_at up hl ei hz
          exact decide_eq_true (by omega)
        have h2 := cnt_le (P := fun w => decide (w < (L + 1) / 2)) (a := srt ws) (l := i) fun l z hl hz => by
          have := up_at up hl ei hz
          exact decide_eq_false (by omega)
        unfold bnd hv lg at bb
        omega
theorem srt_nil : srt ([] : List Int) = [] := (srt_is (List.Perm.refl _) List.Pairwise.nil).symm
theorem lst_nn {ws : List Int} {b : Int} (hb : (ws.length : Int) ≤ 2 * b) (h : ∀ w ∈ ws, 1 ≤ w) : 0 ≤ lstF ws b := by
  by_cases e : ws = []
  · subst e
    have e2 : lstK [] b = 0 := by
      unfold lstK
      simp at hb ⊢
      omega
    unfold lstF
    rw [e2, srt_nil]
    decide
  · obtain ⟨w, hw⟩ := List.exists_mem_of_ne_nil ws e
    have := lstL_top (b := b) w hw
    have := h w hw
    omega
theorem lst_mono {ws : List Int} {b b' : Int} (hw : ∀ w ∈ ws, 1 ≤ w) (hb : (ws.length : Int) ≤ 2 * b) (h : b ≤ b') : lstF ws b' ≤ lstF ws b := by
  by_cases c : lstF ws b' ≤ lstF ws b
  · exact c
  · obtain ⟨h1, wb, c2, e⟩ := lst_feas hb
    exact (lst_not (b := b') (by omega) (lst_nn hb hw) (by omega) ⟨h1, wb, c2, by omega⟩).elim
end Bp

/-! The law's own look at boats, as a plain law. -/
namespace Bp
open Ly
/-- the law's own word for a boat -/
def goodB (ws : List Int) (L : Int) (b : List Int) : Prop := (∃ p, b = [p] ∧ 0 ≤ p ∧ p < (ws.length : Int) ∧ wt ws p ≤ L) ∨ ∃ p q, b = [p, q] ∧ p < q ∧ 0 ≤ p ∧ q < (ws.length : Int) ∧ wt ws p + wt ws q ≤ L
theorem goodB.inR {ws : List Int} {L : Int} {b : List Int} (h : goodB ws L b) : ∀ p ∈ b, 0 ≤ p ∧ p < (ws.length : Int) := fun x hx => by
  rcases h with ⟨p, rfl, h1, h2, h3⟩ | ⟨p, q, rfl, h1, h2, h3, h4⟩
  · rw [List.mem_singleton] at hx
    omega
  · simp at hx
    omega
theorem goodB.ok {ws : List Int} {L : Int} {b : List Int} (h : goodB ws L b) : okBoat ws L b = true := by
  rcases h with ⟨p, rfl, h1, h2, h3⟩ | ⟨p, q, rfl, h1, h2, h3, h4⟩
  · exact okBoat_good (.inl ⟨p, rfl, h3⟩)
  · exact okBoat_good (.inr ⟨p, q, rfl, h1, h4⟩)
/-- how often each person is met -/
def cnts (n : Nat) (fl : List Int) : List Int := (List.range n).map fun (i : Nat) => ((fl.count (i : Int) : Nat) : Int)
theorem cnts_len (n : Nat) (fl : List Int) : (cnts n fl).length = n := by unfold cnts; rw [List.length_map, List.length_range]
theorem cnts_at {n i : Nat} (fl : List Int) (h : i < n) : (cnts n fl)[i]? = some ((fl.count (i : Int) : Nat) : Int) := by
  unfold cnts
  rw [List.getElem?_map, List.getElem?_range h]
  rfl
theorem cnts_nil (n : Nat) : cnts n [] = List.replicate n 0 := by
  unfold cnts
  refine List.ext_getElem? fun i => ?_
  rw [List.getElem?_map, List.getElem?_replicate]
  by_cases h : i < n
  · rw [List.getElem?_range h, if_pos h]; rfl
  · rw [List.getElem?_eq_none (by rw [List.length_range]; omega), if_neg h]; rfl
theorem cnts_snoc {n : Nat} {fl : List Int} {p : Nat} (h : p < n) : cnts n (fl ++ [(p : Int)]) = (cnts n fl).set p (((fl.count (p : Int) : Nat) : Int) + 1) := by
  refine List.ext_getElem? fun i => ?_
  by_cases hi : i < n
  · rw [cnts_at _ hi]
    by_cases e : p = i
    · subst e
      rw [List.getElem?_set_self (by rw [cnts_len]; exact h)]
      rw [List.count_append]
      simp
    · rw [List.getElem?_set_ne e, cnts_at _ hi, List.count_append]
      have : List.count (i : Int) [(p : Int)] = 0 := by
        rw [List.count_eq_zero]
        simp
        omega
      rw [this]
      simp
  · rw [List.getElem?_eq_none (by rw [cnts_len]; omega), List.getElem?_eq_none (by rw [List.length_set, cnts_len]; omega)]
theorem count_rng {n : Nat} {p : Int} (h : 0 ≤ p ∧ p < (n : Int)) : (rng n).count p = 1 := by
  rw [List.Nodup.count (rng_nodup n), if_pos (mem_rng.mpr h)]
theorem cross_perm {n : Nat} {fl : List Int} (hr : ∀ p ∈ fl, 0 ≤ p ∧ p < (n : Int)) (h : ∀ x ∈ cnts n fl, x = 1) : fl.Perm (rng n) := by
  rw [List.perm_iff_count]
  intro p
  by_cases hp : 0 ≤ p ∧ p < (n : Int)
  · rw [count_rng hp]
    obtain ⟨i, rfl⟩ := Int.eq_ofNat_of_zero_le hp.1
    have hi : i < n := by omega
    have := h _ (List.mem_of_getElem? (cnts_at fl hi))
    omega
  · rw [List.count_eq_zero.mpr fun z => hp (hr p z), List.count_eq_zero.mpr fun z => hp (mem_rng.mp z)]
theorem cross_cnt {n : Nat} {fl : List Int} (h : fl.Perm (rng n)) : ∀ x ∈ cnts n fl, x = 1 := fun x hx => by
  unfold cnts at hx
  obtain ⟨i, hi, rfl⟩ := List.mem_map.mp hx
  rw [List.mem_range] at hi
  rw [h.count_eq, count_rng ⟨by omega, by omega⟩]
  rfl
theorem okBoat_goodB {ws : List Int} {L : Int} {bs : List (List Int)} (h : srt bs.flatten = rng ws.length) {b : List Int} (hb : b ∈ bs) (ok : okBoat ws L b = true) : goodB ws L b := by
  have pm := srt_rng.mp h
  have nd : bs.flatten.Nodup := pm.nodup_iff.mpr (rng_nodup _)
  have ndb : b.Nodup := (List.pairwise_flatten.mp nd).1 b hb
  have inR : ∀ p ∈ b, 0 ≤ p ∧ p < (ws.length : Int) := fun p hp => mem_rng.mp (pm.mem_iff.mp (List.mem_flatten.mpr ⟨b, hb, hp⟩))
  unfold okBoat at ok
  rw [Bool.and_eq_true, Bool.and_eq_true, decide_eq_true_eq, decide_eq_true_eq, decide_eq_true_eq] at ok
  obtain ⟨⟨l, s⟩, w⟩ := ok
  match b, l with
  | [p], _ =>
    have := inR p (List.mem_singleton_self p)
    exact .inl ⟨p, rfl, this.1, this.2, by simpa using w⟩
  | [p, q], _ =>
    have h1 := inR p (by simp)
    have h2 := inR q (by simp)
    have ne : p ≠ q := by simpa using ndb
    have le : p ≤ q := by
      have := srt_up [p, q]
      rw [← s] at this
      simpa using this
    exact .inr ⟨p, q, rfl, by omega, h1.1, h2.2, by simpa using w⟩
/-- the law's own word for boats -/
def Cross (ws : List Int) (L : Int) (bs : List (List Int)) : Prop := (∀ b ∈ bs, goodB ws L b) ∧ ∀ x ∈ cnts ws.length bs.flatten, x = 1
theorem cross_iff {ws : List Int} {L : Int} {bs : List (List Int)} : Cross ws L bs ↔ srt bs.flatten = rng ws.length ∧ bs.all (okBoat ws L) = true := by
  constructor
  · rintro ⟨h1, h2⟩
    refine ⟨srt_rng.mpr (cross_perm (fun p hp => ?_) h2), List.all_eq_true.mpr fun b hb => (h1 b hb).ok⟩
    obtain ⟨b, hb, hpb⟩ := List.mem_flatten.mp hp
    exact (h1 b hb).inR p hpb
  · rintro ⟨h1, h2⟩
    exact ⟨fun b hb => okBoat_goodB h1 hb (List.all_eq_true.mp h2 b hb), cross_cnt (srt_rng.mp h1)⟩
/-- the law's own bound -/
def lb (ws : List Int) (L m : Int) : Int × Int := (((hv ws L m).length : Int), ((ws.filter fun w => !decide (L < w + m) && decide (m ≤ w)).length : Int))
theorem lb_sum {L m : Int} (hm : okm L m) : ∀ ws : List Int, ((hv ws L m).length : Int) + ((ws.filter fun w => !decide (L < w + m) && decide (m ≤ w)).length : Int) + ((lg ws m).length : Int) = (ws.length : Int)
  | [] => rfl
  | w :: r => by
    have ih := lb_sum hm r
    obtain ⟨h0, h1⟩ := hm
    unfold hv lg at *
    rw [List.filter_cons, List.filter_cons, List.filter_cons]
    by_cases a : L < w + m
    · have b : m ≤ w := by omega
      rw [decide_eq_true a, decide_eq_true b, decide_eq_false (show ¬ w < m by omega)]
      simp only [Bool.not_true, Bool.false_and, if_true, List.length_cons, Bool.false_eq_true, if_false]
      omega
    · rw [decide_eq_false a]
      by_cases b : m ≤ w
      · rw [decide_eq_true b, decide_eq_false (show ¬ w < m by omega)]
        simp only [Bool.not_false, Bool.true_and, if_true, List.length_cons, Bool.false_eq_true, if_false]
        omega
      · rw [decide_eq_false b, decide_eq_true (show w < m by omega)]
        simp only [Bool.not_false, Bool.and_false, if_true, List.length_cons, Bool.false_eq_true, if_false]
        omega
theorem lb_bnd {ws : List Int} {L m : Int} (hm : okm L m) : (lb ws L m).1 + (lb ws L m).2 / 2 + (lb ws L m).2 % 2 = bnd ws L m := by
  have h := lb_sum hm ws
  unfold lb bnd
  show ((hv ws L m).length : Int) + ((ws.filter fun w => !decide (L < w + m) && decide (m ≤ w)).length : Int) / 2 + ((ws.filter fun w => !decide (L < w + m) && decide (m ≤ w)).length : Int) % 2 = _
  omega
theorem shows_iff {ws : List Int} {L m : Int} {bs : List (List Int)} : showsF ws L bs m = true ↔ Cross ws L bs ∧ (0 ≤ m ∧ 2 * m ≤ L + 1) ∧ (bs.length : Int) = bnd ws L m := by
  unfold showsF
  rw [Bool.and_eq_true, Bool.and_eq_true, Bool.and_eq_true, decide_eq_true_eq, decide_eq_true_eq, decide_eq_true_eq, cross_iff, and_assoc]
end Bp

/-! The layer, twelfth part: an object of boats made of an own list. -/
namespace Ly
open PySem L2
open Evl (Ex)
section
variable {K : PySem.W.Frag} {E : XK} {Γ : Gm} {tm : TE} {d : D}
/-- C(x, e), x the own list of slot i: its items are copied -/
theorem ed_makeOwn {C : Addr} {i : Nat} {ds : List D} (hw : Γ.w = some (i, .lst ds)) (h : Ed K tm Γ d) : Ed K (tMake C (spBinit C) [] E (tCons (tVar i) (tCons tm tNil))) Γ (.bts C (.lst ds) d) := fun B S σ H k Q q => by
  obtain ⟨b, xs, o1, o2, o3, o4, o5, o6⟩ := k.own _ hw
  refine ⟨_, o1, h B S σ H k _ fun v H1 e1 r2 => ?_⟩
  intro x dx hx hdx ne
  have gb := e1 _ _ o5
  have g2 := o6.mono (hs_mono (S := S) e1)
  have nbx : b ≠ x := ne_of_none gb hx
  have nbd : b ≠ dx := ne_of_none gb hdx
  refine ⟨x, dx, b, xs, _, rfl, upd_same, by rw [upd_ne nbx, upd_ne nbd]; exact gb, fun l H' hl p1 p2 p3 => ⟨rfl, ?_⟩⟩
  have nlx : l ≠ x := fun z => by
    rw [z, upd_same] at hl
    cases hl
  have hl1 : H1 l = none := by
    rw [upd_ne nlx] at hl
    by_cases z : l = dx
    · rw [z, upd_same] at hl
      cases hl
    · rw [upd_ne z] at hl
      exact hl
  have e2 : Ex H1 H' := fun a u g => by
    have n1 := ne_of_none g hx
    have n2 := ne_of_none g hl1
    rw [p3 a n1 n2, upd_ne n1, upd_ne (ne_of_none g hdx)]
    exact g
  have k1 := k.mono e1
  have e3 : Ex (Hs S H1) (Hs S H') := hs_mono e2
  exact q _ H' (e1.trans e2) (.bts (hs_in (k1.free hx) p1) (.lst (hs_in (k1.free hl1) p2) (g2.mono e3)) (r2.mono e3))
end
end Ly

/-! The layer, thirteenth part: t[::-1] of a tuple, targets of many names, who is what. -/
namespace Ly
open PySem PySem.Spec PyProof.Rows HT
section
variable {prog : Program} {w : World} {A : Around} {E : Value → Shared → Prop} {s : Shared}
theorem adjust_rev (n : Nat) : Builtin.Slice.sliceAdjust none none (-1) (n : Int) = ((n : Int) - 1, -1) := rfl
theorem places_rev (n : Nat) : Builtin.Slice.slicePlaces ((n : Int) - 1) (-1) (-1) = n := by
  unfold Builtin.Slice.slicePlaces
  have h1 : ¬ ((-1 : Int) > 0) := by decide
  rw [if_neg h1, show (- -1 : Int) = 1 by decide]
  by_cases h : (n : Int) - 1 > -1
  · rw [if_pos h, Int.ediv_one]
    omega
  · rw [if_neg h]
    omega
theorem filterMap_same {α β : Type} {f g : α → Option β} : ∀ {l : List α}, (∀ k ∈ l, f k = g k) → l.filterMap f = l.filterMap g
  | [], _ => rfl
  | a :: l, h => by
    rw [List.filterMap_cons, List.filterMap_cons, h a (List.mem_cons_self ..), filterMap_same fun k hk => h k (List.mem_cons_of_mem _ hk)]
theorem pick_rev (xs : Array Value) : ((List.range xs.size).filterMap fun (k : Nat) => xs[(((xs.size : Int) - 1) + (k : Int) * (-1)).toNat]?).toArray = xs.toList.reverse.toArray := by
  have h := PySem.W.krv_range xs.size
  have e : ((List.range xs.size).filterMap fun (k : Nat) => xs[(((xs.size : Int) - 1) + (k : Int) * (-1)).toNat]?) = ((List.range xs.size).map (fun k => xs.size - 1 - k)).filterMap (xs[·]?) := by
    rw [List.filterMap_map]
    refine filterMap_same fun k hk => ?_
    have := List.mem_range.mp hk
    show xs[(((xs.size : Int) - 1) + (k : Int) * (-1)).toNat]? = xs[xs.size - 1 - k]?
    rw [show (((xs.size : Int) - 1) + (k : Int) * (-1)).toNat = xs.size - 1 - k by omega]
  rw [e, h, List.filterMap_reverse, PySem.W.krv_all]
theorem applied_rev {sl : Addr} {vs : Value} {n : Nat} {Q : Int × Int × Nat → Shared → Prop} (hs : s.heap.IsSliceOf sl .none .none vs) (ps : IsPart vs (some (-1)))
    (h : Q ((n : Int) - 1, -1, n) s) : wpAny (model prog w) A (Builtin.Slice.sliceApplied (.ref sl) (pure (n : Int))) Q E s := by
  obtain ⟨os, hos, hcs, hds⟩ := id hs
  unfold Builtin.Slice.sliceApplied Builtin.Slice.sliceFields
  refine wpAny_bind (wpAny_bind (wpAny_field hos hds (x := .none) rfl (wpAny_bind (wpAny_field hos hds (x := .none) rfl (wpAny_bind (wpAny_field hos hds (x := vs) rfl (wpAny_pure ?_)))))))
  refine wpAny_bind (slicePart_ ps ?_)
  show wpAny _ _ (if ((-1 : Int) == 0) = true then _ else _) _ _ s
  rw [if_neg (by decide)]
  refine wpAny_bind (slicePart_none (wpAny_bind (slicePart_none (wpAny_bind (wpAny_pure ?_)))))
  show wpAny _ _ (match Builtin.Slice.sliceAdjust none none (-1) (n : Int) with | (lo, hi) => pure (lo, (-1 : Int), Builtin.Slice.slicePlaces lo hi (-1))) _ _ s
  rw [adjust_rev n]
  show wpAny _ _ (pure ((n : Int) - 1, (-1 : Int), Builtin.Slice.slicePlaces ((n : Int) - 1) (-1) (-1))) _ _ s
  rw [places_rev]
  exact wpAny_pure h
theorem getItem_tuple_rev {t sl : Addr} {items : Array Value} {vs : Value} {Q : Value → Shared → Prop} (ht : IsTup s.heap t items) (hs : s.heap.IsSliceOf sl .none .none vs) (ps : IsPart vs (some (-1)))
    (h : Q (.ref s.heap.objs.size) { s with heap := s.heap.push { cls := .type "tuple", data := .seq items.toList.reverse.toArray } })
    (hsz : items.size ≤ sizeLine) : wpAny (model prog w) A (getItem (.ref t) (.ref sl)) Q E s := by
  have htake : sizeOk (.seq items.toList.reverse.toArray) := by
    show items.toList.reverse.toArray.size ≤ sizeLine
    rw [List.size_toArray, List.length_reverse, Array.length_toList]
    exact hsz
  obtain ⟨os, hos, hcs, hds⟩ := id hs
  have hTs : s.TypeIs (.ref sl) "slice" := ⟨os, hos, hcs⟩
  unfold getItem
  try with_reducible refine wpAny_holding ?_
  first | refine wpAny_bind (wpAny_pure ?_) | skip
  refine wpAny_bind (wpAny_sequenceKey ht.typeIs (by decide) ?_)
  refine wpAny_bind (wpAny_callSpecial?_slot (name := Str.ofString "__getitem__") ht.typeIs PyProof.Rows.slot_tuple_getitem
    (wpAny_call_entry PyProof.Rows.slot_tuple_getitem ht.typeIs entry_tuple_getitem ?_ (args_tuple_getitem _ _)))
  show wpAny _ _ (Builtin.Tuple.tupleItemsOf (.ref t) >>= _) _ _ s
  refine wpAny_bind (tupleItemsOf_ ht ?_)
  refine wpAny_bind (wpAny_typeOf hTs ?_)
  rw [if_pos (by decide)]
  refine wpAny_bind (applied_rev hs ps ?_)
  have hno : ¬ (((((items.size : Int) - 1) == 0) && ((-1 : Int) == 1) && (items.size == items.size)) = true) := by
    rw [show ((-1 : Int) == 1) = false by decide, Bool.and_false, Bool.false_and]
    exact Bool.false_ne_true
  show wpAny _ _ (if ((((items.size : Int) - 1) == 0) && ((-1 : Int) == 1) && (items.size == items.size)) = true then _ else _) _ _ s
  rw [if_neg hno, pick_rev]
  first
    | exact wpAny_bind (m := Builtin.Tuple.tupleExact _) (wpAny_newObj_type (wpAny_pure ⟨_, rfl, wpAny_pure h⟩) htake)
    | exact wpAny_bind (m := Builtin.Tuple.tupleExact _) (wpAny_newObj_type (wpAny_bind (wpAny_pure (wpAny_pure ⟨_, rfl, wpAny_pure h⟩))) htake)
    | exact wpAny_bind (wpAny_bind (m := Builtin.Tuple.tupleExact _) (wpAny_newObj_type (wpAny_pure (wpAny_pure ⟨_, rfl, wpAny_pure h⟩)) htake))
    | exact wpAny_bind (wpAny_bind (m := Builtin.Tuple.tupleExact _) (wpAny_newObj_type (wpAny_pure ⟨_, rfl, wpAny_pure h⟩) htake))
end
end Ly
namespace Ly
open PySem PySem.Spec PyProof.Rows HT L2
open Evl (Ex)
section
variable {X : Cx}
/-- t[::-1] -/
def tRevT (K : PySem.W.Frag) (te : TE) : TE := fun σ H Q => te σ H fun x H1 => ∃ a xs, x = .ref a ∧ SqT K H1 a xs ∧ ∀ p, H1 p = none → Q (.ref p) (upd H1 p (.tup xs.reverse))
theorem pe_revT {K : PySem.W.Frag} {e : PySem.Expr} {te : TE} {k : Nat} {p1 p2 p3 pos : Pos} (he : PE X e te) (hK : X.K = K := by rfl) : PE X (.Subscript e (.Slice none none (some (.UnaryOp .USub (.Constant (.int 1) k p1) p2)) p3) pos) (tRevT K te) := by
  subst hK
  refine ⟨fun pins s σ H Q I h => ?_⟩
  refine Subscript_ (thn (he.run pins s σ H _ I h) fun v s1 ⟨x, H1, I1, r1, q1⟩ => ?_)
  obtain ⟨a, xs, ex, hx, q⟩ := q1
  subst ex
  cases r1
  have hst : PO X (some (.UnaryOp .USub (.Constant (.int 1) k p1) p2)) (tPart (tUn (rU fun i => .int (-i)) (tC (.int 1)))) := po_some (pe_un un_neg pe_int)
  refine wpAny_Slice (thn (po_none.run pins s1 σ H1 (fun o H2 => o = none ∧ H2 = H1) I1 ⟨rfl, rfl⟩) fun vl s2 ⟨l, H2, I2, pl, el, e2⟩ => ?_)
  subst el e2
  cases pl
  refine thn (po_none.run pins s2 σ H2 (fun o H3 => o = none ∧ H3 = H2) I2 ⟨rfl, rfl⟩) fun vu s3 ⟨u, H3, I3, pu, eu, e3⟩ => ?_
  subst eu e3
  cases pu
  refine thn (hst.run pins s3 σ H3 (fun o H4 => o = some (-1) ∧ H4 = H3) I3 ⟨1, rfl, -1, rfl, rfl, rfl⟩) fun vs s4 ⟨o, H4, I4, ps, eo, e4⟩ => ?_
  subst eo e4
  have I5 : Inv X pins σ H4 { s4 with heap := s4.heap.push { cls := .type "slice", data := .fields #[.none, .none, vs] } } := I4.kept (t' := s4.toks) fun b ob q => Heap.get?_push_of_some _ q
  obtain ⟨its, r, ht, hz⟩ := I5.tuple hx
  have hlen := r.length
  show wpAny (model X.prog X.w) X.A (subscriptTail e (.Slice none none (some (.UnaryOp .USub (.Constant (.int 1) k p1) p2)) p3) (.ref a) (.ref s4.heap.objs.size)) (EP X pins σ Q) X.xe { s4 with heap := s4.heap.push { cls := .type "slice", data := .fields #[.none, .none, vs] } }
  refine tail_any (ops := [.ref a, .ref s4.heap.objs.size]) ht.typeIs PyProof.Rows.slot_tuple_getitem.lookup ?_ (by with_unfolding_all rfl)
  refine getItem_tuple_rev ht (Heap.IsSliceOf.new _ .none .none vs) ps ?_ (by rw [List.size_toArray]; omega)
  refine ⟨.ref _, _, I5.laid (t' := s4.toks) (o := .tup xs.reverse) (fun b ob q => Heap.get?_push_of_some _ q) (Nat.le_refl _) ?_, rfl, q _ (I5.hok.fresh (Nat.le_refl _))⟩
  exact ⟨by rw [List.length_reverse]; exact hz, _, r.reverse, IsTup.new _ _⟩
end
section
variable {K : PySem.W.Frag} {E : XK} {Γ : Gm} {te ta tb : TE} {d : D}
theorem ed_revT {ds : List D} (h : Ed K te Γ (.tup ds)) : Ed K (tRevT K te) Γ (.tup ds.reverse) := fun B S σ H k Q q =>
  h B S σ H k _ fun v H1 e1 d1 => by
    cases d1 with
    | tup h1 r => exact ⟨_, _, rfl, sqt h1, fun p hp => q _ _ (e1.trans (Ex.new hp)) (.tup (hs_in ((k.mono e1).free hp) upd_same) (r.rev.mono (hs_mono (Ex.new hp))))⟩
theorem ed_revIT {ns : List Int} (h : Ed K te Γ (itup ns)) : Ed K (tRevT K te) Γ (itup ns.reverse) := (ed_revT h).is (by unfold itup; rw [List.map_reverse])
/-! ### a target of many names -/
def gNs : List Nat → TGs
  | [] => gNil
  | i :: r => gCons (gName i) (gNs r)
def setN : List (Option Slo) → List Nat → List D → List (Option Slo)
  | l, i :: r, d :: ds => setN (l.set i (some (.v d))) r ds
  | l, _, _ => l
theorem tgs {B : Bs} {S : Hd} {H : Hp} {w : Option (Nat × Ow)} : ∀ {js : List Nat} {ds : List D} {vs : List V} {g : List (Option Slo)} {σ : L2.St} {Q : L2.St → Hp → Prop}, Ok K B S σ ⟨g, w⟩ H → DaAll (Hs S H) vs ds → js.length = ds.length → (∀ x, w = some x → x.1 ∉ js) →
    (∀ σ2, Ok K B S σ2 ⟨setN g js ds, w⟩ H → wipe σ2 js = wipe σ js → Q σ2 H) → gNs js vs σ H Q
  | [], [], _, g, σ, Q, k, r, _, _, q => by
    cases r
    exact ⟨rfl, q σ k rfl⟩
  | i :: js, d :: ds, _, g, σ, Q, k, r, hl, hw, q => by
    cases r with
    | cons r1 r =>
      refine ⟨_, _, rfl, ?_⟩
      have k1 := k.set r1 (i := i) fun x h z => hw x h (by rw [z]; exact List.mem_cons_self ..)
      refine tgs (js := js) k1 r (by simpa using hl) (fun x h z => hw x h (List.mem_cons_of_mem _ z)) fun σ2 k2 e => q σ2 k2 ?_
      show (wipe σ2 js).set i none = (wipe σ js).set i none
      rw [e, ← wipe_set_none, List.set_set, wipe_set_none]
theorem tg_many {js : List Nat} {ds : List D} (hl : js.length = ds.length) (hw : ∀ x, Γ.w = some x → x.1 ∉ js) : Tg K (gTup K js.length (gNs js)) Γ (.tup ds) ⟨setN Γ.g js ds, Γ.w⟩ js := fun B S σ H x k r Q q => by
  cases r with
  | tup h1 r => exact ⟨_, _, rfl, sqt h1, r.len.trans hl.symm, tgs k r hl hw q⟩
/-! ### what a call hands back -/
theorem eg_isiH {C C2 : Addr} {P : D → Prop} {b : Bool} (h : Eg K ta Γ P) (hP : ∀ d, P d → ∃ p, d = .hvy C p) (i : IsC K C) (hb : PySem.W.kitOne K (.ref C) (.ref C2) = some b) : Ed K (tCB (rIsi K) (tCons ta (tCons (tC (.ref C2)) tNil))) Γ (.bl b) := fun B S σ H k Q q =>
  h B S σ H k _ fun v d H1 p1 e1 d1 => by
    obtain ⟨p, rfl⟩ := hP d p1
    cases d1 with
    | hvy g1 g2 => exact ⟨_, .ref C2, .ref C, .ref C2, b, rfl, .own C2, .base (.ins (hs_out g1).1 i.cl i.ha i.hn i.htk i.hm), hb, q _ H1 e1 (.bl b)⟩
theorem eg_slI {tl th : TO} {lo hi : Option Int} {P : List Int → Prop} (h : Eg K te Γ fun d => ∃ ns, d = il ns ∧ P ns) (h1 : Eo K tl Γ lo) (h2 : Eo K th Γ hi) : Eg K (tSl (rSlL K) te tl th) Γ fun d => ∃ ns, d = il (cutG ns lo hi) ∧ P ns := fun B S σ H k Q q =>
  h B S σ H k _ fun v d H1 p1 e1 d1 => h1 B S σ H1 (k.mono e1) _ fun H2 e2 => h2 B S σ H2 (k.mono (e1.trans e2)) _ fun H3 e3 => by
    obtain ⟨ns, rfl, hp⟩ := p1
    have e := (e1.trans e2).trans e3
    have d1 := d1.mono (hs_mono (e2.trans e3))
    cases d1 with
    | lst h1 r => exact ⟨_, _, rfl, sql h1, fun p hq => q _ _ _ ⟨ns, rfl, hp⟩ (e.trans (Ex.new hq)) (.lst (hs_in ((k.mono e).free hq) upd_same) (by
        rw [← cutG_map]
        exact (cut_all r lo hi).mono (hs_mono (Ex.new hq))))⟩
theorem pickG_len {α : Type} (xs : List α) (lo hi st : Option Int) : (pickG xs lo hi st).length ≤ xs.length := by
  have h := slicePick_size_le (xs.map fun _ => Value.none).toArray lo hi st
  have e : (slicePick (xs.map fun _ => Value.none).toArray lo hi st).size = (pickG (xs.map fun _ => Value.none) lo hi st).length := by
    unfold slicePick pickG
    simp
  rw [e, pickG_map, List.length_map, List.size_toArray, List.length_map] at h
  exact h
end
end Ly

/-! The plain law: answers made by hand. -/
namespace Bp
open PySem L2 Ly
def insI (a : Int) : List Int → List Int
  | [] => [a]
  | b :: r => if a ≤ b then a :: b :: r else b :: insI a r
def isrt : List Int → List Int
  | [] => []
  | a :: r => insI a (isrt r)
theorem insI_perm (a : Int) : ∀ l : List Int, (insI a l).Perm (a :: l)
  | [] => List.Perm.refl _
  | b :: r => by
    unfold insI
    split
    · exact List.Perm.refl _
    · exact ((insI_perm a r).cons b).trans (List.Perm.swap a b r)
theorem insI_up (a : Int) : ∀ l : List Int, l.Pairwise (· ≤ ·) → (insI a l).Pairwise (· ≤ ·)
  | [], _ => List.pairwise_singleton _ _
  | b :: r, h => by
    have h' := List.pairwise_cons.mp h
    unfold insI
    split
    · rename_i c
      refine List.pairwise_cons.mpr ⟨fun x hx => ?_, h⟩
      rcases List.mem_cons.mp hx with rfl | hx
      · exact c
      · exact Int.le_trans c (h'.1 x hx)
    · rename_i c
      refine List.pairwise_cons.mpr ⟨fun x hx => ?_, insI_up a r h'.2⟩
      rcases List.mem_cons.mp ((insI_perm a r).mem_iff.mp hx) with rfl | hx
      · omega
      · exact h'.1 x hx
theorem isrt_perm : ∀ l : List Int, (isrt l).Perm l
  | [] => List.Perm.refl _
  | a :: r => (insI_perm a (isrt r)).trans ((isrt_perm r).cons a)
theorem isrt_up : ∀ l : List Int, (isrt l).Pairwise (· ≤ ·)
  | [] => List.Pairwise.nil
  | a :: r => insI_up a _ (isrt_up r)
theorem srt_eq (l : List Int) : srt l = isrt l := (srt_is (isrt_perm l) (isrt_up l)).symm
def okBoatI (ws : List Int) (L : Int) (b : List Int) : Bool := decide (1 ≤ b.length ∧ b.length ≤ 2) && decide (b = isrt b) && decide ((b.map (wt ws)).sum ≤ L)
def showsI (ws : List Int) (L : Int) (bs : List (List Int)) (m : Int) : Bool :=
  decide (isrt bs.flatten = rng ws.length) && bs.all (okBoatI ws L) && decide (0 ≤ m ∧ 2 * m ≤ L + 1) && decide ((bs.length : Int) = bnd ws L m)
theorem shows_eq (ws : List Int) (L : Int) (bs : List (List Int)) (m : Int) : showsF ws L bs m = showsI ws L bs m := by
  have e : okBoat ws L = okBoatI ws L := funext fun b => by
    unfold okBoat okBoatI
    rw [srt_eq]
  unfold showsF showsI
  rw [e, srt_eq]
def P30 : Int := 1000000000000000000000000000000
/-- boats made by hand, and what is due -/
abbrev C1 := List (List Int) × Int × List Int × Int × Bool
def c1 : List C1 := [([], 0, [], 0, true), ([[0]], 0, [5], 5, true), ([[0]], 3, [5], 5, true), ([[0]], 4, [5], 5, false), ([[0]], -1, [5], 5, false), ([[0, 1]], 0, [2, 3], 5, true),
  ([[0], [1]], 0, [2, 3], 5, false), ([[1, 0]], 0, [2, 3], 5, false), ([[0, 1], [0]], 0, [2, 3], 5, false), ([[0]], 0, [2, 3], 5, false),
  ([[0, 1], [2]], 0, [2, 2, 2], 4, true), ([[0, 1, 2]], 0, [1, 1, 1], 4, false), ([[0], [1]], 3, [3, 3], 5, true), ([[0], [1]], 0, [3, 3], 5, false),
  ([[0, 0]], 0, [2], 5, false), ([[]], 0, [], 5, false), ([[0, 2]], 0, [2, 3], 5, false), ([[2], [0, 1]], 0, [2, 2, 2], 4, true)]
theorem c1_ok : ∀ c ∈ c1, showsF c.2.2.1 c.2.2.2.1 c.1 c.2.1 = c.2.2.2.2 := by
  simp only [shows_eq]
  decide +kernel
theorem c1_len : ∀ c ∈ c1, c.1.flatten.length ≤ 500 ∧ c.1.length ≤ 500 ∧ c.2.2.1.length ≤ 500 := by decide +kernel
abbrev C2 := Int × List Int × Int × Bool
def c2 : List C2 := [(0, [5], 4, true), (0, [5], 5, false), (1, [5], 4, false), (-1, [5], 4, false), (1, [1, P30], 9, true), (0, [1, P30], 9, false)]
theorem c2_ok : ∀ c ∈ c2, heavyF c.2.1 c.2.2.1 c.1 = c.2.2.2 := by decide +kernel
def fitB (L : Int) : List Int → Bool
  | [x] => decide (x ≤ L)
  | [x, y] => decide (x + y ≤ L)
  | _ => false
theorem fitB_fit {L : Int} : ∀ {b : List Int}, fitB L b = true → (∃ x, b = [x] ∧ x ≤ L) ∨ ∃ x y, b = [x, y] ∧ x + y ≤ L
  | [x], h => .inl ⟨x, rfl, of_decide_eq_true h⟩
  | [x, y], h => .inr ⟨x, y, rfl, of_decide_eq_true h⟩
theorem minC_by {ws : List Int} {L m : Int} (wb : List (List Int)) (h1 : isrt wb.flatten = isrt ws) (h2 : wb.all (fitB L) = true) (hm : 0 ≤ m ∧ 2 * m ≤ L + 1) (hb : bnd ws L m = (wb.length : Int)) : MinC ws L wb.length :=
  ⟨⟨wb, ⟨(isrt_perm _).symm.trans (h1 ▸ isrt_perm ws), fun b hb => fitB_fit (List.all_eq_true.mp h2 b hb)⟩, rfl⟩, fun wc c => by
    have := bnd_le c (m := m) hm
    omega⟩
/-- people, a limit, how many boats; boats and a mark that show it -/
abbrev C3 := List Int × Int × Int
def c3 : List C3 := [([], 0, 0), ([5], 5, 1), ([3, 3], 5, 2), ([2, 2, 2], 4, 2), ([1, 2, 3, 4], 5, 2), ([P30, P30, P30, P30, P30], P30, 5), ([1, 1, 1, 1, 1, 1, 1], 2, 4), ([5, 1, 1, 1], 5, 3)]
theorem c3_pre : ∀ c ∈ c3, c.1.length ≤ 200 ∧ (∀ w ∈ c.1, 1 ≤ w) ∧ 0 ≤ c.2.1 := by decide +kernel
theorem c3_le : ∀ c ∈ c3, ∀ w ∈ c.1, w ≤ c.2.1 := by decide +kernel
theorem c3_min : ∀ c ∈ c3, ∃ k : Nat, c.2.2 = (k : Int) ∧ MinC c.1 c.2.1 k := fun c hc => by
  unfold c3 at hc
  simp only [List.mem_cons, List.not_mem_nil, or_false] at hc
  rcases hc with rfl | rfl | rfl | rfl | rfl | rfl | rfl | rfl
  · exact ⟨_, rfl, minC_by (m := 0) [] (by decide +kernel) (by decide +kernel) (by decide +kernel) (by decide +kernel)⟩
  · exact ⟨_, rfl, minC_by (m := 0) [[5]] (by decide +kernel) (by decide +kernel) (by decide +kernel) (by decide +kernel)⟩
  · exact ⟨_, rfl, minC_by (m := 3) [[3], [3]] (by decide +kernel) (by decide +kernel) (by decide +kernel) (by decide +kernel)⟩
  · exact ⟨_, rfl, minC_by (m := 0) [[2, 2], [2]] (by decide +kernel) (by decide +kernel) (by decide +kernel) (by decide +kernel)⟩
  · exact ⟨_, rfl, minC_by (m := 0) [[1, 4], [2, 3]] (by decide +kernel) (by decide +kernel) (by decide +kernel) (by decide +kernel)⟩
  · exact ⟨_, rfl, minC_by (m := 1) [[P30], [P30], [P30], [P30], [P30]] (by decide +kernel) (by decide +kernel) (by decide +kernel) (by decide +kernel)⟩
  · exact ⟨_, rfl, minC_by (m := 0) [[1, 1], [1, 1], [1, 1], [1]] (by decide +kernel) (by decide +kernel) (by decide +kernel) (by decide +kernel)⟩
  · exact ⟨_, rfl, minC_by (m := 1) [[5], [1, 1], [1]] (by decide +kernel) (by decide +kernel) (by decide +kernel) (by decide +kernel)⟩
theorem c3_told {c : C3} (h : c ∈ c3) {bs : List (List Int)} {m : Int} (g : Good c.1 c.2.1 bs) (hm : okm c.2.1 m) (hb : bnd c.1 c.2.1 m = (bs.length : Int)) : (bs.length : Int) = c.2.2 := by
  obtain ⟨k, e, hk⟩ := c3_min c h
  rw [e, hk.uniq (List.Perm.refl _) (good_min g hm hb)]
def grI (ws : List Int) (L : Int) : List Int := (isrt (ws.filter fun w => decide (2 * w > L))).reverse
def wayI (ws : List Int) (L : Int) : Int := if ((smF ws L).length : Int) - ((grI ws L).length : Int) < 0 ∨ (((smF ws L).length : Int) - ((grI ws L).length : Int)) % 2 = 1 then 0 else prG L (smF ws L) (grI ws L) 0 * oddF ((smF ws L).length - (grI ws L).length)
theorem way_eq (ws : List Int) (L : Int) : wayF ws L = wayI ws L := by
  have e : grF ws L = grI ws L := by
    unfold grF grI
    rw [srt_eq]
  unfold wayF wayI
  rw [e]
abbrev C4 := List Int × Int
def c4 : List C4 := [([], 0), ([1], 5), ([1, 1], 1), ([1, 1, 1, 1], 2), ([5, 1], 5), ([P30, P30, P30, P30, P30, P30], 2 * P30), ([1, 1, 1, 1, 1, 1, 1, 1, 1, 1, 1, 1, 1, 1, 1, 1, 1, 1, 1, 1], 2), ([9, 1, 1, 1], 5), ([1, 2, 3, 4], 5)]
theorem c4_pre : ∀ c ∈ c4, c.1.length ≤ 500 ∧ (∀ w ∈ c.1, 1 ≤ w) ∧ 0 ≤ c.2 := by decide +kernel
theorem c4_ok : (c4.map fun c => wayF c.1 c.2) = [1, 0, 0, 3, 0, 15, 654729075, 0, 1] := by
  simp only [way_eq]
  decide +kernel
def lstI (ws : List Int) (b : Int) : Int := mxD (lstL (isrt ws) (lstK ws b))
theorem lst_eq (ws : List Int) (b : Int) : lstF ws b = lstI ws b := by
  unfold lstF lstI
  rw [srt_eq]
def c5 : List C4 := [([], 0), ([3, 5], 2), ([3, 5], 1), ([1, 2, 3, 4], 2), ([7], 5), ([P30, 1], 1), ([1, 2, 3, 4], 3), ([5, 5, 1], 2)]
theorem c5_pre : ∀ c ∈ c5, c.1.length ≤ 500 ∧ (∀ w ∈ c.1, 1 ≤ w) ∧ (c.1.length : Int) ≤ 2 * c.2 := by decide +kernel
theorem c5_ok : (c5.map fun c => lstF c.1 c.2) = [0, 5, 8, 5, 7, P30 + 1, 4, 6] := by
  simp only [lst_eq]
  decide +kernel
theorem hand0 : showsF [] 3 [] 0 = true ∧ showsF [] 0 [] 1 = false ∧ showsF [1, 2] 3 [[1, 0]] 0 = false ∧ showsF [1, 2] 3 [[0, 1]] 0 = true := by
  simp only [shows_eq]
  decide +kernel
end Bp

namespace Bt
open PySem L2 Ly
open Evl (Ex)
def topS (i : Nat) : Stmt := PySem.Challenge.pw_boatpairs_k05_answers_by_hand.main.body.getD i (.Pass ⟨0, 0, 0, 0⟩)
abbrev s_is_number : Stmt := topS 6
theorem sc_is_number : FnScope ["thing"] ["thing"] (defScope s_is_number) := ⟨rfl, rfl, rfl, by decide +kernel, rfl, by decide +kernel, by decide +kernel⟩
abbrev s_asked_people : Stmt := topS 7
theorem sc_asked_people : FnScope ["weights", "weight"] ["weights"] (defScope s_asked_people) := ⟨rfl, rfl, rfl, by decide +kernel, rfl, by decide +kernel, by decide +kernel⟩
abbrev s_asked_two : Stmt := topS 8
theorem sc_asked_two : FnScope ["weights", "limit"] ["weights", "limit"] (defScope s_asked_two) := ⟨rfl, rfl, rfl, by decide +kernel, rfl, by decide +kernel, by decide +kernel⟩
abbrev s_heavy : Stmt := topS 9
theorem sc_heavy : FnScope ["weights", "limit", "mark", "weight"] ["weights", "limit", "mark"] (defScope s_heavy) := ⟨rfl, rfl, rfl, by decide +kernel, rfl, by decide +kernel, by decide +kernel⟩
abbrev s_light : Stmt := topS 10
theorem sc_light : FnScope ["weights", "mark", "weight"] ["weights", "mark"] (defScope s_light) := ⟨rfl, rfl, rfl, by decide +kernel, rfl, by decide +kernel, by decide +kernel⟩
abbrev s_bound : Stmt := topS 11
theorem sc_bound : FnScope ["weights", "limit", "mark", "alone", "between"] ["weights", "limit", "mark"] (defScope s_bound) := ⟨rfl, rfl, rfl, by decide +kernel, rfl, by decide +kernel, by decide +kernel⟩
abbrev s_in_order : Stmt := topS 12
theorem sc_in_order : FnScope ["weights", "weight", "person"] ["weights"] (defScope s_in_order) := ⟨rfl, rfl, rfl, by decide +kernel, rfl, by decide +kernel, by decide +kernel⟩
abbrev s_ways : Stmt := topS 13
theorem sc_ways : FnScope ["weights", "limit", "great", "weight", "small", "found", "taken", "one", "rest"] ["weights", "limit"] (defScope s_ways) := ⟨rfl, rfl, rfl, by decide +kernel, rfl, by decide +kernel, by decide +kernel⟩
abbrev s_Heavyinit : Stmt := inClass (topS 16) 0
theorem sc_Heavyinit : FnScope ["self", "person"] ["self", "person"] (defScope s_Heavyinit) := ⟨rfl, rfl, rfl, by decide +kernel, rfl, by decide +kernel, by decide +kernel⟩
abbrev s_Heavy_shows : Stmt := inClass (topS 16) 1
theorem sc_Heavy_shows : FnScope ["self", "weights", "limit"] ["self", "weights", "limit"] (defScope s_Heavy_shows) := ⟨rfl, rfl, rfl, by decide +kernel, rfl, by decide +kernel, by decide +kernel⟩
abbrev s_Boatsinit : Stmt := inClass (topS 17) 0
theorem sc_Boatsinit : FnScope ["self", "boats", "mark"] ["self", "boats", "mark"] (defScope s_Boatsinit) := ⟨rfl, rfl, rfl, by decide +kernel, rfl, by decide +kernel, by decide +kernel⟩
abbrev s_Boats_shows : Stmt := inClass (topS 17) 1
theorem sc_Boats_shows : FnScope ["self", "weights", "limit", "people", "boat", "person"] ["self", "weights", "limit"] (defScope s_Boats_shows) := ⟨rfl, rfl, rfl, by decide +kernel, rfl, by decide +kernel, by decide +kernel⟩
abbrev s_marks : Stmt := topS 19
theorem sc_marks : FnScope ["weights", "limit", "found", "weight", "mark"] ["weights", "limit"] (defScope s_marks) := ⟨rfl, rfl, rfl, by decide +kernel, rfl, by decide +kernel, by decide +kernel⟩
abbrev s_boats_of : Stmt := topS 20
theorem sc_boats_of : FnScope ["weights", "limit", "order", "found", "low", "high"] ["weights", "limit"] (defScope s_boats_of) := ⟨rfl, rfl, rfl, by decide +kernel, rfl, by decide +kernel, by decide +kernel⟩
abbrev s_told : Stmt := topS 21
theorem sc_told : FnScope ["weights", "limit", "person", "weight", "boats", "mark"] ["weights", "limit"] (defScope s_told) := ⟨rfl, rfl, rfl, by decide +kernel, rfl, by decide +kernel, by decide +kernel⟩
abbrev s_least_limit : Stmt := topS 22
theorem sc_least_limit : FnScope ["weights", "boats", "order", "rest", "pairs", "at"] ["weights", "boats"] (defScope s_least_limit) := ⟨rfl, rfl, rfl, by decide +kernel, rfl, by decide +kernel, by decide +kernel⟩
abbrev s__law_people : Stmt := topS 24
theorem sc__law_people : FnScope ["_law_script", "_law_mixed", "_law_most", "_law_least", "_law_cell"] ["_law_script"] (defScope s__law_people) := ⟨rfl, rfl, rfl, by decide +kernel, rfl, by decide +kernel, by decide +kernel⟩
abbrev s__law_limit : Stmt := topS 25
theorem sc__law_limit : FnScope ["_law_script", "_law_weights", "_law_mixed", "_law_rising", "_law_heaviest", "_law_middle", "_law_some", "_law_twice"] ["_law_script", "_law_weights"] (defScope s__law_limit) := ⟨rfl, rfl, rfl, by decide +kernel, rfl, by decide +kernel, by decide +kernel⟩
abbrev s__law_cross : Stmt := topS 27
theorem sc__law_cross : FnScope ["_law_weights", "_law_limit_here", "_law_boats_here", "_law_met", "_law_weight", "_law_boat", "_law_person", "_law_one"] ["_law_weights", "_law_limit_here", "_law_boats_here"] (defScope s__law_cross) := ⟨rfl, rfl, rfl, by decide +kernel, rfl, by decide +kernel, by decide +kernel⟩
abbrev s__law_bound : Stmt := topS 28
theorem sc__law_bound : FnScope ["_law_weights", "_law_limit_here", "_law_mark", "_law_alone", "_law_between", "_law_weight"] ["_law_weights", "_law_limit_here", "_law_mark"] (defScope s__law_bound) := ⟨rfl, rfl, rfl, by decide +kernel, rfl, by decide +kernel, by decide +kernel⟩
abbrev s__law_boats : Stmt := topS 29
theorem sc__law_boats : FnScope ["_law_weights", "_law_limit_here", "_law_boats_here", "_law_mark"] ["_law_weights", "_law_limit_here", "_law_boats_here", "_law_mark"] (defScope s__law_boats) := ⟨rfl, rfl, rfl, by decide +kernel, rfl, by decide +kernel, by decide +kernel⟩
abbrev s__law_says : Stmt := topS 30
theorem sc__law_says : FnScope ["_law_said", "_law_due"] ["_law_said", "_law_due"] (defScope s__law_says) := ⟨rfl, rfl, rfl, by decide +kernel, rfl, by decide +kernel, by decide +kernel⟩
abbrev s__law_bent : Stmt := topS 31
theorem sc__law_bent : FnScope ["_law_boats_here", "_law_cell", "_law_many", "_law_kind", "_law_at", "_law_some", "_law_boat"] ["_law_boats_here", "_law_cell", "_law_many"] (defScope s__law_bent) := ⟨rfl, rfl, rfl, by decide +kernel, rfl, by decide +kernel, by decide +kernel⟩
abbrev s__law_right : Stmt := topS 32
theorem sc__law_right : FnScope ["_law_weights", "_law_limit_here", "_law_boats_here", "_law_mark", "_law_handed", "_law_answer"] ["_law_weights", "_law_limit_here", "_law_boats_here", "_law_mark"] (defScope s__law_right) := ⟨rfl, rfl, rfl, by decide +kernel, rfl, by decide +kernel, by decide +kernel⟩
abbrev s__law_promises_right : Stmt := topS 33
theorem sc__law_promises_right : FnScope ["_law_great", "_law_cases", "_law_boats_here", "_law_mark", "_law_weights", "_law_limit_here", "_law_due", "_law_person", "_law_many", "_law_found", "_law_pairs", "_law_asked"] [] (defScope s__law_promises_right) := ⟨rfl, rfl, rfl, by decide +kernel, rfl, by decide +kernel, by decide +kernel⟩
abbrev s_law : Stmt := topS 34
theorem sc_law : FnScope ["_law_script", "_law_weights", "_law_limit_here", "_law_found", "_law_alone", "_law_person", "_law_cell", "_law_due", "_law_mark", "_law_bent_here"] ["_law_script"] (defScope s_law) := ⟨rfl, rfl, rfl, by decide +kernel, rfl, by decide +kernel, by decide +kernel⟩
/-- what stands behind the top -/
structure Tab (K : PySem.W.Frag) (mg : Str → Option Value) where
  z_len : mg "len" = none
  z_sum : mg "sum" = none
  z_max : mg "max" = none
  z_min : mg "min" = none
  z_sorted : mg "sorted" = none
  z_all : mg "all" = none
  z_isinstance : mg "isinstance" = none
  z_enumerate : mg "enumerate" = none
  z_list : mg "list" = none
  z_set : mg "set" = none
  z_range : mg "range" = none
  z_int : mg "int" = none
  z_bool : mg "bool" = none
  c_Answer : Addr
  c_Heavy : Addr
  c_Boats : Addr
  c_BoatError : Addr
  c_BadPeople : Addr
  c_BadLimit : Addr
  c_BadBoats : Addr
  f_is_number : Addr
  d_is_number : FuncData
  F_is_number : Fun K "is_number" "is_number" s_is_number f_is_number d_is_number
  b_is_number : Binds K d_is_number ["thing"] []
  g_is_number : mg "is_number" = some (.ref f_is_number)
  f_asked_people : Addr
  d_asked_people : FuncData
  F_asked_people : Fun K "asked_people" "asked_people" s_asked_people f_asked_people d_asked_people
  b_asked_people : Binds K d_asked_people ["weights"] []
  g_asked_people : mg "asked_people" = some (.ref f_asked_people)
  f_asked_two : Addr
  d_asked_two : FuncData
  F_asked_two : Fun K "asked_two" "asked_two" s_asked_two f_asked_two d_asked_two
  b_asked_two : Binds K d_asked_two ["weights", "limit"] []
  g_asked_two : mg "asked_two" = some (.ref f_asked_two)
  f_heavy : Addr
  d_heavy : FuncData
  F_heavy : Fun K "heavy" "heavy" s_heavy f_heavy d_heavy
  b_heavy : Binds K d_heavy ["weights", "limit", "mark"] []
  g_heavy : mg "heavy" = some (.ref f_heavy)
  f_light : Addr
  d_light : FuncData
  F_light : Fun K "light" "light" s_light f_light d_light
  b_light : Binds K d_light ["weights", "mark"] []
  g_light : mg "light" = some (.ref f_light)
  f_bound : Addr
  d_bound : FuncData
  F_bound : Fun K "bound" "bound" s_bound f_bound d_bound
  b_bound : Binds K d_bound ["weights", "limit", "mark"] []
  g_bound : mg "bound" = some (.ref f_bound)
  f_in_order : Addr
  d_in_order : FuncData
  F_in_order : Fun K "in_order" "in_order" s_in_order f_in_order d_in_order
  b_in_order : Binds K d_in_order ["weights"] []
  g_in_order : mg "in_order" = some (.ref f_in_order)
  f_ways : Addr
  d_ways : FuncData
  F_ways : Fun K "ways" "ways" s_ways f_ways d_ways
  b_ways : Binds K d_ways ["weights", "limit"] []
  g_ways : mg "ways" = some (.ref f_ways)
  f_Heavyinit : Addr
  d_Heavyinit : FuncData
  F_Heavyinit : Fun K "__init__" "Heavy.__init__" s_Heavyinit f_Heavyinit d_Heavyinit
  b_Heavyinit : Binds K d_Heavyinit ["self", "person"] []
  f_Heavy_shows : Addr
  d_Heavy_shows : FuncData
  F_Heavy_shows : Fun K "shows" "Heavy.shows" s_Heavy_shows f_Heavy_shows d_Heavy_shows
  b_Heavy_shows : Binds K d_Heavy_shows ["self", "weights", "limit"] []
  f_Boatsinit : Addr
  d_Boatsinit : FuncData
  F_Boatsinit : Fun K "__init__" "Boats.__init__" s_Boatsinit f_Boatsinit d_Boatsinit
  b_Boatsinit : Binds K d_Boatsinit ["self", "boats", "mark"] []
  f_Boats_shows : Addr
  d_Boats_shows : FuncData
  F_Boats_shows : Fun K "shows" "Boats.shows" s_Boats_shows f_Boats_shows d_Boats_shows
  b_Boats_shows : Binds K d_Boats_shows ["self", "weights", "limit"] []
  f_marks : Addr
  d_marks : FuncData
  F_marks : Fun K "marks" "marks" s_marks f_marks d_marks
  b_marks : Binds K d_marks ["weights", "limit"] []
  g_marks : mg "marks" = some (.ref f_marks)
  f_boats_of : Addr
  d_boats_of : FuncData
  F_boats_of : Fun K "boats_of" "boats_of" s_boats_of f_boats_of d_boats_of
  b_boats_of : Binds K d_boats_of ["weights", "limit"] []
  g_boats_of : mg "boats_of" = some (.ref f_boats_of)
  f_told : Addr
  d_told : FuncData
  F_told : Fun K "told" "told" s_told f_told d_told
  b_told : Binds K d_told ["weights", "limit"] []
  g_told : mg "told" = some (.ref f_told)
  f_least_limit : Addr
  d_least_limit : FuncData
  F_least_limit : Fun K "least_limit" "least_limit" s_least_limit f_least_limit d_least_limit
  b_least_limit : Binds K d_least_limit ["weights", "boats"] []
  g_least_limit : mg "least_limit" = some (.ref f_least_limit)
  f__law_people : Addr
  d__law_people : FuncData
  F__law_people : Fun K "_law_people" "_law_people" s__law_people f__law_people d__law_people
  b__law_people : Binds K d__law_people ["_law_script"] []
  g__law_people : mg "_law_people" = some (.ref f__law_people)
  f__law_limit : Addr
  d__law_limit : FuncData
  F__law_limit : Fun K "_law_limit" "_law_limit" s__law_limit f__law_limit d__law_limit
  b__law_limit : Binds K d__law_limit ["_law_script", "_law_weights"] []
  g__law_limit : mg "_law_limit" = some (.ref f__law_limit)
  f__law_cross : Addr
  d__law_cross : FuncData
  F__law_cross : Fun K "_law_cross" "_law_cross" s__law_cross f__law_cross d__law_cross
  b__law_cross : Binds K d__law_cross ["_law_weights", "_law_limit_here", "_law_boats_here"] []
  g__law_cross : mg "_law_cross" = some (.ref f__law_cross)
  f__law_bound : Addr
  d__law_bound : FuncData
  F__law_bound : Fun K "_law_bound" "_law_bound" s__law_bound f__law_bound d__law_bound
  b__law_bound : Binds K d__law_bound ["_law_weights", "_law_limit_here", "_law_mark"] []
  g__law_bound : mg "_law_bound" = some (.ref f__law_bound)
  f__law_boats : Addr
  d__law_boats : FuncData
  F__law_boats : Fun K "_law_boats" "_law_boats" s__law_boats f__law_boats d__law_boats
  b__law_boats : Binds K d__law_boats ["_law_weights", "_law_limit_here", "_law_boats_here", "_law_mark"] []
  g__law_boats : mg "_law_boats" = some (.ref f__law_boats)
  f__law_says : Addr
  d__law_says : FuncData
  F__law_says : Fun K "_law_says" "_law_says" s__law_says f__law_says d__law_says
  b__law_says : Binds K d__law_says ["_law_said", "_law_due"] []
  g__law_says : mg "_law_says" = some (.ref f__law_says)
  f__law_bent : Addr
  d__law_bent : FuncData
  F__law_bent : Fun K "_law_bent" "_law_bent" s__law_bent f__law_bent d__law_bent
  b__law_bent : Binds K d__law_bent ["_law_boats_here", "_law_cell", "_law_many"] []
  g__law_bent : mg "_law_bent" = some (.ref f__law_bent)
  f__law_right : Addr
  d__law_right : FuncData
  F__law_right : Fun K "_law_right" "_law_right" s__law_right f__law_right d__law_right
  b__law_right : Binds K d__law_right ["_law_weights", "_law_limit_here", "_law_boats_here", "_law_mark"] []
  g__law_right : mg "_law_right" = some (.ref f__law_right)
  f__law_promises_right : Addr
  d__law_promises_right : FuncData
  F__law_promises_right : Fun K "_law_promises_right" "_law_promises_right" s__law_promises_right f__law_promises_right d__law_promises_right
  b__law_promises_right : Binds K d__law_promises_right [] []
  g__law_promises_right : mg "_law_promises_right" = some (.ref f__law_promises_right)
  f_law : Addr
  d_law : FuncData
  F_law : Fun K "law" "law" s_law f_law d_law
  b_law : Binds K d_law ["_law_script"] []
  g_law : mg "law" = some (.ref f_law)
  g_Answer : mg "Answer" = some (.ref c_Answer)
  g_Heavy : mg "Heavy" = some (.ref c_Heavy)
  i_Heavy : IsC K c_Heavy
  n_Heavy_person : NoAttr K c_Heavy "person"
  k_Heavy : Mk K c_Heavy f_Heavyinit
  m_Heavy_shows : Meth K c_Heavy "shows" f_Heavy_shows
  g_Boats : mg "Boats" = some (.ref c_Boats)
  i_Boats : IsC K c_Boats
  n_Boats_boats : NoAttr K c_Boats "boats"
  n_Boats_mark : NoAttr K c_Boats "mark"
  k_Boats : Mk K c_Boats f_Boatsinit
  m_Boats_shows : Meth K c_Boats "shows" f_Boats_shows
  q_Heavy_Answer : PySem.W.kitOne K (.ref c_Heavy) (.ref c_Answer) = some true
  q_Heavy_Heavy : PySem.W.kitOne K (.ref c_Heavy) (.ref c_Heavy) = some true
  q_Heavy_Boats : PySem.W.kitOne K (.ref c_Heavy) (.ref c_Boats) = some false
  q_Boats_Answer : PySem.W.kitOne K (.ref c_Boats) (.ref c_Answer) = some true
  q_Boats_Heavy : PySem.W.kitOne K (.ref c_Boats) (.ref c_Heavy) = some false
  q_Boats_Boats : PySem.W.kitOne K (.ref c_Boats) (.ref c_Boats) = some true
  g_BoatError : mg "BoatError" = some (.ref c_BoatError)
  g_BadPeople : mg "BadPeople" = some (.ref c_BadPeople)
  x_BadPeople : PySem.W.excIn K c_BadPeople [.type "ValueError", .type "Exception", .type "BaseException", .type "object"] "ValueError.__new__" = true
  k_BadPeople : PySem.W.keepIn K (.ref c_BadPeople) = true
  r_BadPeople : PySem.W.subIn K (.ref c_BadPeople) (.type "BaseException") = some true
  t_BadPeople : PySem.W.typeIn K (.ref c_BadPeople) = some (.type "type")
  g_BadLimit : mg "BadLimit" = some (.ref c_BadLimit)
  x_BadLimit : PySem.W.excIn K c_BadLimit [.type "ValueError", .type "Exception", .type "BaseException", .type "object"] "ValueError.__new__" = true
  k_BadLimit : PySem.W.keepIn K (.ref c_BadLimit) = true
  r_BadLimit : PySem.W.subIn K (.ref c_BadLimit) (.type "BaseException") = some true
  t_BadLimit : PySem.W.typeIn K (.ref c_BadLimit) = some (.type "type")
  g_BadBoats : mg "BadBoats" = some (.ref c_BadBoats)
  x_BadBoats : PySem.W.excIn K c_BadBoats [.type "ValueError", .type "Exception", .type "BaseException", .type "object"] "ValueError.__new__" = true
  k_BadBoats : PySem.W.keepIn K (.ref c_BadBoats) = true
  r_BadBoats : PySem.W.subIn K (.ref c_BadBoats) (.type "BaseException") = some true
  t_BadBoats : PySem.W.typeIn K (.ref c_BadBoats) = some (.type "type")
def Tab.cl_Heavy {K : PySem.W.Frag} {mg : Str → Option Value} (T : Tab K mg) : Cls K T.c_Heavy := T.i_Heavy.cl
def Tab.cl_Boats {K : PySem.W.Frag} {mg : Str → Option Value} (T : Tab K mg) : Cls K T.c_Boats := T.i_Boats.cl
/-! the steps of the layer, tried by an expression's form -/
local macro_rules | `(tactic| walk_at "lyc") => `(tactic| fail)
local macro_rules | `(tactic| walk_at "lyo") => `(tactic| fail)
local macro_rules | `(tactic| walk_at "lys") => `(tactic| first
  | assumption
  | rfl
  | omega
  | (intro x hx; cases hx; done)
  | (simp only [List.length_map, List.length_cons, List.length_nil, List.length_append] at *; omega)
  | skip)
local macro_rules | `(tactic| walk_at "ly") => `(tactic| first
  | ((with_reducible refine ed_var ?_); exact rfl)
  | with_reducible exact ed_int
  | with_reducible exact ed_bl
  | with_reducible exact ed_non
  | with_reducible exact ed_str
  | with_reducible exact ea_nil
  | with_reducible exact eo_none
  | with_reducible exact et_yes
  | ((with_reducible refine ed_II ?_ ?_); all_goals walk_at "ly")
  | ((with_reducible refine ed_IB ?_ ?_); all_goals walk_at "ly")
  | ((with_reducible refine ed_IC ?_ ?_ ?_); all_goals walk_at "ly")
  | ((with_reducible refine ea_cons ?_ ?_); all_goals walk_at "ly")
  | ((with_reducible refine eo_some ?_); all_goals walk_at "ly")
  | ((with_reducible refine et_T ?_); all_goals walk_at "ly")
  | ((with_reducible refine et_B ?_); all_goals walk_at "ly")
  | ((with_reducible refine et_not ?_); all_goals walk_at "ly")
  | ((with_reducible refine ed_lenI ?_); all_goals walk_at "ly")
  | ((with_reducible refine ed_lenB ?_); all_goals walk_at "ly")
  | ((with_reducible refine ed_lenIT ?_); all_goals walk_at "ly")
  | ((with_reducible refine ed_lenL ?_); all_goals walk_at "ly")
  | ((with_reducible refine ed_lenT ?_); all_goals walk_at "ly")
  | ((with_reducible refine ed_ixI ?_ ?_ ?_); all_goals walk_at "ly")
  | ((with_reducible refine ed_ixB ?_ ?_ ?_); all_goals walk_at "ly")
  | ((with_reducible refine ed_ixIT ?_ ?_ ?_); all_goals walk_at "ly")
  | ((with_reducible refine ed_ixL ?_ ?_ ?_); all_goals walk_at "ly")
  | ((with_reducible refine ed_ixT ?_ ?_ ?_); all_goals walk_at "ly")
  | ((with_reducible refine ed_sum ?_); all_goals walk_at "ly")
  | ((with_reducible refine ed_max2 ?_ ?_); all_goals walk_at "ly")
  | ((with_reducible refine ed_min2 ?_ ?_); all_goals walk_at "ly")
  | ((with_reducible refine ed_eqi ?_ ?_); all_goals walk_at "ly")
  | ((with_reducible refine ed_nei ?_ ?_); all_goals walk_at "ly")
  | ((with_reducible refine ed_eqb ?_ ?_); all_goals walk_at "ly")
  | ((with_reducible refine ed_neb ?_ ?_); all_goals walk_at "ly")
  | ((with_reducible refine ed_isb ?_ ?_); all_goals walk_at "ly")
  | ((with_reducible refine ed_isnb ?_ ?_); all_goals walk_at "ly")
  | ((with_reducible refine ed_eqI ?_ ?_); all_goals walk_at "ly")
  | ((with_reducible refine ed_neI ?_ ?_); all_goals walk_at "ly")
  | ((with_reducible refine ed_eqB ?_ ?_); all_goals walk_at "ly")
  | ((with_reducible refine ed_neB ?_ ?_); all_goals walk_at "ly")
  | ((with_reducible refine ed_chain ?_ ?_ ?_); all_goals walk_at "ly")
  | ((with_reducible refine ed_neg ?_); all_goals walk_at "ly")
  | ((with_reducible refine ed_not ?_); all_goals walk_at "ly")
  | ((with_reducible refine ed_tup ?_ ?_); all_goals walk_at "ly")
  | ((with_reducible refine en_lst ?_ ?_); all_goals walk_at "ly")
  | ((with_reducible refine en_slI ?_ ?_ ?_); all_goals walk_at "ly")
  | ((with_reducible refine en_slB ?_ ?_ ?_); all_goals walk_at "ly")
  | ((with_reducible refine en_sl ?_ ?_ ?_); all_goals walk_at "ly")
  | ((with_reducible refine en_revI ?_); all_goals walk_at "ly")
  | ((with_reducible refine en_rev ?_); all_goals walk_at "ly")
  | ((with_reducible refine en_catI ?_ ?_ ?_); all_goals walk_at "ly")
  | ((with_reducible refine en_catB ?_ ?_ ?_); all_goals walk_at "ly")
  | ((with_reducible refine en_cat ?_ ?_ ?_); all_goals walk_at "ly")
  | ((with_reducible refine en_sorted ?_); all_goals walk_at "ly")
  | ((with_reducible refine en_listL ?_); all_goals walk_at "ly")
  | ((with_reducible refine en_listT ?_); all_goals walk_at "ly")
  | ((with_reducible refine si_listI ?_); all_goals walk_at "ly")
  | ((with_reducible refine si_listB ?_); all_goals walk_at "ly")
  | ((with_reducible refine si_tupI ?_); all_goals walk_at "ly")
  | ((with_reducible refine si_list ?_); all_goals walk_at "ly")
  | ((with_reducible refine si_tup ?_); all_goals walk_at "ly")
  | ((with_reducible refine si_range1 ?_ ?_ ?_); all_goals walk_at "ly")
  | (walk_at "lyc"; all_goals walk_at "ly")
  | (walk_at "lyo"; all_goals walk_at "ly")
  | ((with_reducible refine En.toI ?_); (with_reducible refine id_n ?_); walk_at "ly")
  | ((with_reducible refine En.toB ?_); (with_reducible refine id_n ?_); walk_at "ly")
  | ((with_reducible refine En.toEd ?_); (with_reducible refine id_n ?_); walk_at "ly")
  | ((fail_if_success with_reducible refine id_d ?_); (fail_if_success with_reducible refine id_n ?_); (fail_if_success with_reducible refine id_t ?_); (fail_if_success with_reducible refine id_a ?_); (fail_if_success with_reducible refine id_o ?_); walk_at "lys"))

section
variable {P : Program} {w : World} {K : PySem.W.Frag} {mg : Str → Option Value} {base : Heap}
/-- a whole number from 0 on -/
def numD : D → Bool
  | .int i => decide (0 ≤ i)
  | _ => false
def sp_is_number : Sp := spG (α := D) (fun a => [a]) (fun a => ∃ t, tyN a = some t) (fun a r => r = .bl (numD a))
theorem ok_is_number (T : Tab K mg) : FnOk P w K mg base CX0 1 T.f_is_number T.d_is_number ["thing"] (sp_is_number) := by
  refine T.F_is_number.ok sc_is_number (fun vs H Q E h => ?_) (fun cdv A outer s H vs Q E hr h => ?_)
  · obtain ⟨a, S, _, da, _⟩ := h
    exact da.len
  · obtain ⟨d, S, inn, da, hp, q⟩ := h
    refine ⟨_, (pss_one (ps_ret (pe_and (pe_callB (isI (K := K)) (by rfl) T.z_isinstance (by decide +kernel) (pa_cons (pv 0) (pa_cons (pe_bltn (v := .ty "int") (by rfl) T.z_int (by decide +kernel) rfl) pa_nil))) (pe_and (pe_not (pe_callB (isI (K := K)) (by rfl) T.z_isinstance (by decide +kernel) (pa_cons (pv 0) (pa_cons (pe_bltn (v := .ty "bool") (by rfl) T.z_bool (by decide +kernel) rfl) pa_nil)))) (pe_one (pe_cmpR op_ge (pv 0) pe_int (nomark _))))))), run_defP (K := K) (E := E) (Xc := fun _ => False) inn da ?_ q (fun _ _ z => z.elim)⟩
    try simp only [kN, kC]
    obtain ⟨t, ht⟩ := hp
    refine sg_ret ?_ rfl
    have key : ∀ {c : String} {b : Bool}, kitB t c = some b → Ed K (tCB (rIsi K) (tCons (tVar 0) (tCons (tC (.ty c)) tNil))) (ini 1 [d]) (.bl b) := fun hb => ed_isiB (ed_var rfl) ht hb
    cases d with
    | int i =>
      cases ht
      exact (ed_and (key (b := true) (by decide +kernel)) fun _ => ed_and (ed_not (key (b := false) (by decide +kernel))) fun _ => ed_IB (ed_var rfl) ed_int).is (by simp [numD])
    | bl b =>
      cases ht
      exact (ed_and (key (b := true) (by decide +kernel)) fun _ => ed_and (b := false) (ed_not (key (b := true) (by decide +kernel))) fun z => nomatch z).is (by simp [numD])
    | non =>
      cases ht
      exact (ed_and (b := false) (key (b := false) (by decide +kernel)) fun z => nomatch z).is (by simp [numD])
    | str x =>
      cases ht
      exact (ed_and (b := false) (key (b := false) (by decide +kernel)) fun z => nomatch z).is (by simp [numD])
    | dct =>
      cases ht
      exact (ed_and (b := false) (key (b := false) (by decide +kernel)) fun z => nomatch z).is (by simp [numD])
    | lst x =>
      cases ht
      exact (ed_and (b := false) (key (b := false) (by decide +kernel)) fun z => nomatch z).is (by simp [numD])
    | tup x =>
      cases ht
      exact (ed_and (b := false) (key (b := false) (by decide +kernel)) fun z => nomatch z).is (by simp [numD])
    | hvy C x => cases ht
    | bts C x y => cases ht
end

section
variable {P : Program} {w : World} {K : PySem.W.Frag} {mg : Str → Option Value} {base : Heap}
def goodD : D → Bool
  | .int i => decide (0 < i)
  | _ => false
def okD (d : D) : Prop := ∃ t, tyN d = some t
def isLst : D → Bool
  | .lst _ => true
  | _ => false
/-- people that are refused -/
def badP (d : D) : Prop := okD d ∧ ∀ ds, d = .lst ds → (∀ e ∈ ds, okD e) ∧ ds.length ≤ 500 ∧ ds.all goodD = false
/-- people -/
def okW (ws : List Int) : Prop := ws.length ≤ 500 ∧ ∀ w ∈ ws, 1 ≤ w
theorem ed_is_number {Γ : Gm} {E : XK} {ta : TA} {d : D} (h : Ea K ta Γ [d]) (hd : okD d) : Ed K (tCall sp_is_number [] E ta) Γ (.bl (numD d)) := (eg_call d h hd).toEd
theorem isLst_ty {d : D} (h : okD d) : ∃ t, tyN d = some t ∧ kitB t "list" = some (isLst d) := by
  obtain ⟨t, ht⟩ := h
  refine ⟨t, ht, ?_⟩
  cases d with
  | lst x => cases ht; show kitB _ "list" = some true; decide +kernel
  | int x => cases ht; show kitB _ "list" = some false; decide +kernel
  | bl x => cases ht; show kitB _ "list" = some false; decide +kernel
  | str x => cases ht; show kitB _ "list" = some false; decide +kernel
  | tup x => cases ht; show kitB _ "list" = some false; decide +kernel
  | non => cases ht; decide +kernel
  | dct => cases ht; decide +kernel
  | hvy C x => cases ht
  | bts C x y => cases ht
theorem numD_good {d : D} {n : Int} (h : d = .int n) : (numD d && decide (0 < n)) = goodD d := by
  subst h
  show (decide (0 ≤ n) && decide (0 < n)) = decide (0 < n)
  by_cases h : 0 < n
  · rw [decide_eq_true h, decide_eq_true (show 0 ≤ n by omega)]
    rfl
  · rw [decide_eq_false h, Bool.and_false]
def sp_asked_people (T : Tab K mg) : Sp := spX (α := List Int) (fun ws => [il ws]) okW (fun _ r => r = .non) (fun ds C => ∃ d, ds = [d] ∧ badP d ∧ C = T.c_BadPeople)
theorem ok_asked_people (T : Tab K mg) : FnOk P w K mg base (L2.CX P w) 2 T.f_asked_people T.d_asked_people ["weights"] (sp_asked_people T) := by
  refine T.F_asked_people.okX sc_asked_people (fun vs H Q E h => ?_) (fun cdv A outer s H vs Q E hr h => ?_)
  · rcases h with ⟨a, S, _, da, _⟩ | ⟨ds, S, C, _, da, hb, _⟩
    · exact da.len
    · exact da.len.trans (by obtain ⟨d, rfl, _⟩ := hb; rfl)
  · refine ⟨_, (pss_one (ps_if (PW.pt (pw_or (pt_not (pt_val (pe_callB (isI (K := K)) (by rfl) T.z_isinstance (by decide +kernel) (pa_cons (pv 0) (pa_cons (pe_bltn (v := .ty "list") (by rfl) T.z_list (by decide +kernel) rfl) pa_nil))))) (pw_or1 (pt_not (pt_val (pe_callB (cr_all rfl) (by rfl) T.z_all (by decide +kernel) (pa_cons (pe_lc (own := [("weight", 1)]) (g := gName 1) (by rfl) sc_asked_people.nd (pi_list (pv 0)) (blkOk_by (own := [("weight", 1)]) (N := ["weights", "weight"]) (sc := defScope s_asked_people) (by decide +kernel)) (fun _ _ _ _ _ => (pg_name (i := 1) sc_asked_people.nd rfl (by first | exact Or.inl rfl | exact Or.inr rfl))) (fun _ _ _ _ _ => (pts_nil)) (fun _ _ _ _ _ => (pe_and (pe_call (ok_is_number T) (hr.mono (by decide)) (by rfl) T.g_is_number T.F_is_number.kp T.b_is_number .nil pass0 (pa_cons (pv 1) pa_nil)) (pe_one (pe_cmpR op_gt (pv 1) pe_int (nomark _)))))) pa_nil))))))) (pss_one (ps_raise rfl (takes_of rfl rfl rfl rfl) (pmk_own PySem.F.excBase_ValueError T.x_BadPeople T.g_BadPeople T.k_BadPeople (raises_own T.r_BadPeople T.t_BadPeople) (by rfl)))) pss_nil)), ?_⟩
    try simp only [kN, kC]
    rcases h with ⟨ws, S, inn, da, hp, q⟩ | ⟨ds, S, C, inn, da, hb, x⟩
    · refine run_defP (K := K) (E := E) (Xc := fun _ => False) inn da ?_ q (fun _ _ z => z.elim)
      obtain ⟨h1, h2⟩ := hp
      refine sg_if (b := false) ?_ (fun z => nomatch z) (fun _ => sg_next rfl)
      refine (et_or (a := !true) (b := !((ws.map fun n => true).all id)) (et_not (et_B ?_)) fun _ => et_not (et_B (ed_all ?_))).is ?_
      · exact ed_isiB (t := "list") (d := il ws) (ed_var rfl) rfl (by decide +kernel)
      · refine (En.toEd (en_lcIy (ns := ws) (e := fun n => D.bl true) ?_ (by omega) nw (fun n hn => ?_))).is (by rw [List.map_map]; rfl)
        · exact si_listI (ed_var rfl)
        · have h3 := h2 n hn
          refine (ed_and (a := true) (b := true) ?_ fun _ => ?_).is rfl
          · exact (ed_is_number (d := .int n) (ea_cons (ed_var rfl) ea_nil) ⟨"int", rfl⟩).is (by show D.bl (decide (0 ≤ n)) = _; rw [decide_eq_true (by omega)])
          · exact (ed_IB (ed_var rfl) ed_int).is (by rw [decide_eq_true (by omega)])
      · have e3 : (ws.map fun n => true).all id = true := by
          rw [List.all_eq_true]
          intro b hb
          obtain ⟨n, _, rfl⟩ := List.mem_map.mp hb
          rfl
        rw [e3]
        rfl
    · obtain ⟨d, rfl, ⟨hd, hl⟩, rfl⟩ := hb
      refine run_defP (K := K) (E := E) (Q := Q) (R := fun _ => False) (Xc := fun C => C = T.c_BadPeople) inn da ?_ (fun _ _ _ z => z.elim) (fun C H' e z => by rw [show C = T.c_BadPeople from e]; exact x H' z)
      refine sg_if (b := true) ?_ (fun _ => sg_raise rfl) (fun z => nomatch z)
      obtain ⟨t, ht, hk⟩ := isLst_ty hd
      cases hx : isLst d with
      | false =>
        rw [hx] at hk
        refine (et_or (a := !false) (b := true) (et_not (et_B ?_)) fun z => nomatch z).is rfl
        exact ed_isiB (ed_var rfl) ht hk
      | true =>
        rw [hx] at hk
        obtain ⟨ds, rfl⟩ : ∃ ds, d = .lst ds := by
          cases d with
          | lst ds => exact ⟨ds, rfl⟩
          | _ => cases hx
        obtain ⟨g1, g2, g3⟩ := hl ds rfl
        have e3 : (ds.map goodD).all id = false := by
          rw [List.all_map]
          exact g3
        refine (et_or (a := !true) (b := !((ds.map goodD).all id)) (et_not (et_B ?_)) fun _ => et_not (et_B (ed_all ?_))).is (by rw [e3]; rfl)
        · exact ed_isiB (ed_var rfl) ht hk
        · refine (En.toEd (en_lcAy (emb := id) (xs := ds) (e := fun e => D.bl (goodD e)) ?_ (by omega) nw (fun e he => ?_))).is (by rw [List.map_map]; rfl)
          · rw [List.map_id]
            exact si_list (ed_var rfl)
          · cases e with
            | int n => exact (ed_and (ed_is_number (d := .int n) (ea_cons (ed_var rfl) ea_nil) (g1 _ he)) fun _ => ed_IB (ed_var rfl) ed_int).is (by rw [numD_good rfl])
            | bl x => exact (ed_and (b := false) (ed_is_number (d := .bl x) (ea_cons (ed_var rfl) ea_nil) (g1 _ he)) fun z => nomatch z).is rfl
            | str x => exact (ed_and (b := false) (ed_is_number (d := .str x) (ea_cons (ed_var rfl) ea_nil) (g1 _ he)) fun z => nomatch z).is rfl
            | lst x => exact (ed_and (b := false) (ed_is_number (d := .lst x) (ea_cons (ed_var rfl) ea_nil) (g1 _ he)) fun z => nomatch z).is rfl
            | tup x => exact (ed_and (b := false) (ed_is_number (d := .tup x) (ea_cons (ed_var rfl) ea_nil) (g1 _ he)) fun z => nomatch z).is rfl
            | non => exact (ed_and (b := false) (ed_is_number (d := .non) (ea_cons (ed_var rfl) ea_nil) (g1 _ he)) fun z => nomatch z).is rfl
            | dct => exact (ed_and (b := false) (ed_is_number (d := .dct) (ea_cons (ed_var rfl) ea_nil) (g1 _ he)) fun z => nomatch z).is rfl
            | hvy x y =>
              obtain ⟨t, ht⟩ := g1 _ he
              cases ht
            | bts x y z =>
              obtain ⟨t, ht⟩ := g1 _ he
              cases ht
end

section
variable {P : Program} {w : World} {K : PySem.W.Frag} {mg : Str → Option Value} {base : Heap}
/-- people and a limit that are refused, and by which class -/
def badTwo (T : Tab K mg) (ds : List D) (C : Addr) : Prop := (∃ d e, ds = [d, e] ∧ badP d ∧ C = T.c_BadPeople) ∨ ∃ ws e, ds = [il ws, e] ∧ okW ws ∧ okD e ∧ numD e = false ∧ C = T.c_BadLimit
theorem badTwo_two {T : Tab K mg} {ds : List D} {C : Addr} (h : badTwo T ds C) : ∃ d e, ds = [d, e] := by
  rcases h with ⟨d, e, rfl, _⟩ | ⟨ws, e, rfl, _⟩
  · exact ⟨_, _, rfl⟩
  · exact ⟨_, _, rfl⟩
def sp_asked_two (T : Tab K mg) : Sp := spX (α := List Int × Int) (fun a => [il a.1, .int a.2]) (fun a => okW a.1 ∧ 0 ≤ a.2) (fun _ r => r = .non) (badTwo T)
theorem ok_asked_two (T : Tab K mg) : FnOk P w K mg base (L2.CX P w) 3 T.f_asked_two T.d_asked_two ["weights", "limit"] (sp_asked_two T) := by
  refine T.F_asked_two.okX sc_asked_two (fun vs H Q E h => ?_) (fun cdv A outer s H vs Q E hr h => ?_)
  · rcases h with ⟨a, S, _, da, _⟩ | ⟨ds, S, C, _, da, hb, _⟩
    · exact da.len
    · exact da.len.trans (by rcases hb with ⟨d, e, rfl, _⟩ | ⟨ws, e, rfl, _⟩ <;> rfl)
  · refine ⟨_, (pss_cons (ps_expr (pe_call (ok_asked_people T) (hr.mono (by decide)) (by rfl) T.g_asked_people T.F_asked_people.kp T.b_asked_people .nil (passes_call (takes_of rfl rfl rfl rfl) (fun _ _ _ _ h => h)) (pa_cons (pv 0) pa_nil)))
      (pss_one (ps_if (pt_not (pt_val (pe_call (ok_is_number T) (hr.mono (by decide)) (by rfl) T.g_is_number T.F_is_number.kp T.b_is_number .nil pass0 (pa_cons (pv 1) pa_nil)))) (pss_one (ps_raise rfl (takes_of rfl rfl rfl rfl) (pmk_own PySem.F.excBase_ValueError T.x_BadLimit T.g_BadLimit T.k_BadLimit (raises_own T.r_BadLimit T.t_BadLimit) (by rfl)))) pss_nil))), ?_⟩
    try simp only [kN, kC]
    rcases h with ⟨⟨ws, L⟩, S, inn, da, hp, q⟩ | ⟨ds, S, C, inn, da, hb, x⟩
    · refine run_defP (K := K) (E := E) (Xc := fun _ => False) inn da ?_ q (fun _ _ z => z.elim)
      obtain ⟨h1, h2⟩ := hp
      refine sg_seq (N1 := fun G => G = ini 2 [il ws, .int L]) (sg_callX (ds := [il ws]) (ea_cons (ed_var rfl) ea_nil) (.inl ⟨ws, rfl, h1, rfl⟩)) fun G e => ?_
      subst e
      refine sg_if (b := false) ?_ (fun z => nomatch z) (fun _ => sg_next rfl)
      refine (et_not (et_B (ed_is_number (d := .int L) (ea_cons (ed_var rfl) ea_nil) ⟨"int", rfl⟩))).is ?_
      show (!decide (0 ≤ L)) = false
      rw [decide_eq_true h2]
      rfl
    · rcases hb with ⟨d, e, rfl, hd, rfl⟩ | ⟨ws, e, rfl, hw, ht, hn, rfl⟩
      · refine run_defP (K := K) (E := E) (Q := Q) (R := fun _ => False) (Xc := fun C => C = T.c_BadPeople) inn da ?_ (fun _ _ _ z => z.elim) (fun C H' e z => by rw [show C = T.c_BadPeople from e]; exact x H' z)
        refine sg_seq (N1 := fun _ => False) (sg_callX (ds := [d]) (ea_cons (ed_var rfl) ea_nil) (.inr ⟨T.c_BadPeople, ⟨d, rfl, hd, rfl⟩, rfl⟩)) fun G e => e.elim
      · refine run_defP (K := K) (E := E) (Q := Q) (R := fun _ => False) (Xc := fun C => C = T.c_BadLimit) inn da ?_ (fun _ _ _ z => z.elim) (fun C H' e z => by rw [show C = T.c_BadLimit from e]; exact x H' z)
        refine sg_seq (N1 := fun G => G = ini 2 [il ws, e]) (sg_callX (ds := [il ws]) (ea_cons (ed_var rfl) ea_nil) (.inl ⟨ws, rfl, hw, rfl⟩)) fun G e => ?_
        subst e
        refine sg_if (b := true) ?_ (fun _ => sg_raise rfl) (fun z => nomatch z)
        refine (et_not (et_B (ed_is_number (d := e) (ea_cons (ed_var rfl) ea_nil) ht))).is ?_
        rw [hn]
        rfl
end

section
variable {P : Program} {w : World} {K : PySem.W.Frag} {mg : Str → Option Value} {base : Heap}
def sp_heavy : Sp := spG (α := List Int × Int × Int) (fun a => [il a.1, .int a.2.1, .int a.2.2]) (fun a => a.1.length ≤ 500) (fun a r => r = .int ((Bp.hv a.1 a.2.1 a.2.2).length : Int))
theorem ok_heavy (T : Tab K mg) : FnOk P w K mg base CX0 1 T.f_heavy T.d_heavy ["weights", "limit", "mark"] (sp_heavy) := by
  refine T.F_heavy.ok sc_heavy (fun vs H Q E h => ?_) (fun cdv A outer s H vs Q E hr h => ?_)
  · obtain ⟨a, S, _, da, _⟩ := h
    exact da.len
  · obtain ⟨⟨ws, L, m⟩, S, inn, da, hp, q⟩ := h
    refine ⟨_, (pss_one (ps_ret (pe_callB (crLen (K := K)) (by rfl) T.z_len (by decide +kernel) (pa_cons (pe_lc (own := [("weight", 3)]) (g := gName 3) (by rfl) sc_heavy.nd (pi_list (pv 0)) (blkOk_by (own := [("weight", 3)]) (N := ["weights", "limit", "mark", "weight"]) (sc := defScope s_heavy) (by decide +kernel)) (fun _ _ _ _ _ => (pg_name (i := 3) sc_heavy.nd rfl (by first | exact Or.inl rfl | exact Or.inr rfl))) (fun _ _ _ _ _ => (pts_one (pt_cmpR op_gt (pe_op op_add (pv 3) (pv 2)) (pv 1) (nomark _)))) (fun _ _ _ _ _ => (pv 3))) pa_nil)))), run_defP (K := K) (E := E) (Xc := fun _ => False) inn da ?_ q (fun _ _ z => z.elim)⟩
    try simp only [kN, kC]
    replace hp : ws.length ≤ 500 := hp
    refine sg_ret (d := .int ((Bp.hv ws L m).length : Int)) ?_ rfl
    refine ed_lenI (En.toI (en_lcI (f := fun x => decide (L < x + m)) (e := D.int) (ns := ws) ?_ ?_ ?_ (fun n hn => ?_) (fun n hn _ => ?_)))
    all_goals walk_at "ly"
end

section
variable {P : Program} {w : World} {K : PySem.W.Frag} {mg : Str → Option Value} {base : Heap}
def sp_light : Sp := spG (α := List Int × Int) (fun a => [il a.1, .int a.2]) (fun a => a.1.length ≤ 500) (fun a r => r = .int ((Bp.lg a.1 a.2).length : Int))
theorem ok_light (T : Tab K mg) : FnOk P w K mg base CX0 1 T.f_light T.d_light ["weights", "mark"] (sp_light) := by
  refine T.F_light.ok sc_light (fun vs H Q E h => ?_) (fun cdv A outer s H vs Q E hr h => ?_)
  · obtain ⟨a, S, _, da, _⟩ := h
    exact da.len
  · obtain ⟨⟨ws, m⟩, S, inn, da, hp, q⟩ := h
    refine ⟨_, (pss_one (ps_ret (pe_callB (crLen (K := K)) (by rfl) T.z_len (by decide +kernel) (pa_cons (pe_lc (own := [("weight", 2)]) (g := gName 2) (by rfl) sc_light.nd (pi_list (pv 0)) (blkOk_by (own := [("weight", 2)]) (N := ["weights", "mark", "weight"]) (sc := defScope s_light) (by decide +kernel)) (fun _ _ _ _ _ => (pg_name (i := 2) sc_light.nd rfl (by first | exact Or.inl rfl | exact Or.inr rfl))) (fun _ _ _ _ _ => (pts_one (pt_cmpR op_lt (pv 2) (pv 1) (nomark _)))) (fun _ _ _ _ _ => (pv 2))) pa_nil)))), run_defP (K := K) (E := E) (Xc := fun _ => False) inn da ?_ q (fun _ _ z => z.elim)⟩
    try simp only [kN, kC]
    replace hp : ws.length ≤ 500 := hp
    refine sg_ret (d := .int ((Bp.lg ws m).length : Int)) ?_ rfl
    refine ed_lenI (En.toI (en_lcI (f := fun x => decide (x < m)) (e := D.int) (ns := ws) ?_ ?_ ?_ (fun n hn => ?_) (fun n hn _ => ?_)))
    all_goals walk_at "ly"
end

section
variable {P : Program} {w : World} {K : PySem.W.Frag} {mg : Str → Option Value} {base : Heap}
def sp_bound : Sp := spG (α := List Int × Int × Int) (fun a => [il a.1, .int a.2.1, .int a.2.2]) (fun a => a.1.length ≤ 500) (fun a r => r = .int (Bp.bnd a.1 a.2.1 a.2.2))
theorem ed_heavy {Γ : Gm} {E : XK} {ta : TA} {ws : List Int} {L m : Int} (h : Ea K ta Γ [il ws, .int L, .int m]) (hz : ws.length ≤ 500) : Ed K (tCall sp_heavy [] E ta) Γ (.int ((Bp.hv ws L m).length : Int)) := (eg_call (ws, L, m) h hz).toEd
theorem ed_light {Γ : Gm} {E : XK} {ta : TA} {ws : List Int} {m : Int} (h : Ea K ta Γ [il ws, .int m]) (hz : ws.length ≤ 500) : Ed K (tCall sp_light [] E ta) Γ (.int ((Bp.lg ws m).length : Int)) := (eg_call (ws, m) h hz).toEd
theorem ok_bound (T : Tab K mg) : FnOk P w K mg base CX0 2 T.f_bound T.d_bound ["weights", "limit", "mark"] (sp_bound) := by
  refine T.F_bound.ok sc_bound (fun vs H Q E h => ?_) (fun cdv A outer s H vs Q E hr h => ?_)
  · obtain ⟨a, S, _, da, _⟩ := h
    exact da.len
  · obtain ⟨⟨ws, L, m⟩, S, inn, da, hp, q⟩ := h
    refine ⟨_, (pss_cons (ps_set (i := 3) sc_bound.nd rfl (by first | exact Or.inl rfl | exact Or.inr rfl) (pe_call (ok_heavy T) (hr.mono (by decide)) (by rfl) T.g_heavy T.F_heavy.kp T.b_heavy .nil pass0 (pa_cons (pv 0) (pa_cons (pv 1) (pa_cons (pv 2) pa_nil)))))
      (pss_cons (ps_set (i := 4) sc_bound.nd rfl (by first | exact Or.inl rfl | exact Or.inr rfl) (pe_op op_sub (pe_op op_sub (pe_callB (crLen (K := K)) (by rfl) T.z_len (by decide +kernel) (pa_cons (pv 0) pa_nil)) (pv 3)) (pe_call (ok_light T) (hr.mono (by decide)) (by rfl) T.g_light T.F_light.kp T.b_light .nil pass0 (pa_cons (pv 0) (pa_cons (pv 2) pa_nil)))))
      (pss_one (ps_ret (pe_op op_add (pv 3) (pe_op op_fdiv (pe_op op_add (pv 4) pe_int) pe_int)))))), run_defP (K := K) (E := E) (Xc := fun _ => False) inn da ?_ q (fun _ _ z => z.elim)⟩
    try simp only [kN, kC]
    replace hp : ws.length ≤ 500 := hp
    refine sq_set (d := .int ((Bp.hv ws L m).length : Int)) (ed_heavy ?_ hp) ?_ ?_
    · walk_at "ly"
    · walk_at "ly"
    refine sq_set (d := .int ((ws.length : Int) - (Bp.hv ws L m).length - (Bp.lg ws m).length)) ?_ ?_ ?_
    · refine ed_II (ed_II ?_ ?_) (ed_light ?_ hp)
      all_goals walk_at "ly"
    · walk_at "ly"
    refine sg_ret (d := .int (Bp.bnd ws L m)) ?_ rfl
    refine ed_II (ed_var rfl) (ed_IC (ed_II (ed_var rfl) ed_int) ed_int ⟨by decide, by decide⟩)
end

section
variable {P : Program} {w : World} {K : PySem.W.Frag} {mg : Str → Option Value} {base : Heap}
/-- the places with their weights -/
def prs (ws : List Int) : List (Int × Int) := (List.range ws.length).map fun (i : Nat) => (ws.getD i 0, (i : Int))
/-- the people in order -/
def ordF (ws : List Int) : List Int := (psrt (prs ws)).map (·.2)
theorem prs_len (ws : List Int) : (prs ws).length = ws.length := by
  unfold prs
  rw [List.length_map, List.length_range]
theorem ordF_ord (ws : List Int) : Bp.Ord ws (ordF ws) := by
  have hp := psrt_perm (prs ws)
  have hk : ∀ p ∈ psrt (prs ws), Bp.wt ws p.2 = p.1 := fun p hm => by
    obtain ⟨i, hi, rfl⟩ := List.mem_map.mp (hp.mem_iff.mp hm)
    show ws.getD ((i : Int)).toNat 0 = ws.getD i 0
    rw [Int.toNat_natCast]
  refine ⟨?_, ?_⟩
  · have h := hp.map (·.2)
    have e : (prs ws).map (·.2) = Bp.rng ws.length := by
      unfold prs Bp.rng
      rw [List.map_map]
      rfl
    rw [e] at h
    exact h
  · unfold ordF
    refine List.pairwise_map.mpr ?_
    refine List.Pairwise.imp_of_mem (fun {a b} ha hb h => ?_) (psrt_up (prs ws))
    rw [hk a ha, hk b hb]
    omega
theorem enD_il (ws : List Int) : enD (ws.map D.int) = ((List.range ws.length).map fun (i : Nat) => ((i : Int), ws.getD i 0)).map fun a => .tup [.int a.1, .int a.2] := by
  unfold enD
  refine List.ext_getElem? fun i => ?_
  rw [List.getElem?_mapIdx, List.getElem?_map, List.map_map, List.getElem?_map]
  by_cases h : i < ws.length
  · rw [List.getElem?_eq_getElem h, List.getElem?_range h]
    simp [List.getD, List.getElem?_eq_getElem h]
  · rw [List.getElem?_eq_none (by omega), List.getElem?_eq_none (by rw [List.length_range]; omega)]
    rfl
def sp_in_order : Sp := spG (α := List Int) (fun a => [il a]) (fun a => a.length ≤ 500) (fun a r => r = il (ordF a))
theorem ok_in_order (T : Tab K mg) : FnOk P w K mg base CX0 1 T.f_in_order T.d_in_order ["weights"] (sp_in_order) := by
  refine T.F_in_order.ok sc_in_order (fun vs H Q E h => ?_) (fun cdv A outer s H vs Q E hr h => ?_)
  · obtain ⟨a, S, _, da, _⟩ := h
    exact da.len
  · obtain ⟨ws, S, inn, da, hp, q⟩ := h
    refine ⟨_, (pss_one (ps_ret (pe_lc (own := [("weight", 1), ("person", 2)]) (g := gTup K 2 (gCons (gName 1) (gCons (gName 2) gNil))) (by rfl) sc_in_order.nd (pi_list (pe_callB cr_sortedPO (by rfl) T.z_sorted (by decide +kernel) (pa_cons (pe_lc (own := [("person", 2), ("weight", 1)]) (g := gTup K 2 (gCons (gName 2) (gCons (gName 1) gNil))) (by rfl) sc_in_order.nd (pi_enum (by rfl) T.z_enumerate (pa_cons (pv 0) pa_nil)) (blkOk_by (own := [("person", 2), ("weight", 1)]) (N := ["weights", "weight", "person"]) (sc := defScope s_in_order) (by decide +kernel)) (fun _ _ _ _ _ => (pg_tup rfl (pgs_cons (pg_name (i := 2) sc_in_order.nd rfl (by first | exact Or.inl rfl | exact Or.inr rfl)) (pgs_cons (pg_name (i := 1) sc_in_order.nd rfl (by first | exact Or.inl rfl | exact Or.inr rfl)) pgs_nil)))) (fun _ _ _ _ _ => (pts_nil)) (fun _ _ _ _ _ => (pe_tup (pa_cons (pv 1) (pa_cons (pv 2) pa_nil))))) pa_nil))) (blkOk_by (own := [("weight", 1), ("person", 2)]) (N := ["weights", "weight", "person"]) (sc := defScope s_in_order) (by decide +kernel)) (fun _ _ _ _ _ => (pg_tup rfl (pgs_cons (pg_name (i := 1) sc_in_order.nd rfl (by first | exact Or.inl rfl | exact Or.inr rfl)) (pgs_cons (pg_name (i := 2) sc_in_order.nd rfl (by first | exact Or.inl rfl | exact Or.inr rfl)) pgs_nil)))) (fun _ _ _ _ _ => (pts_nil)) (fun _ _ _ _ _ => (pv 2))))), run_defP (K := K) (E := E) (Xc := fun _ => False) inn da ?_ q (fun _ _ z => z.elim)⟩
    try simp only [kN, kC]
    replace hp : ws.length ≤ 500 := hp
    refine sg_ret (d := il (ordF ws)) ?_ rfl
    refine (En.toEd (en_lcPy (e1 := fun a : Int × Int => .int a.1) (e2 := fun a : Int × Int => .int a.2) (xs := psrt (prs ws)) (e := fun a => .int a.2) (si_list (En.toEd (en_sortedP (ps := prs ws) ?_))) ?_ nw (fun a ha => ?_))).is ?_
    · refine (En.toEd (en_lcPy (e1 := fun a : Int × Int => .int a.1) (e2 := fun a : Int × Int => .int a.2) (xs := (List.range ws.length).map fun (i : Nat) => ((i : Int), ws.getD i 0)) (e := fun a => prD (a.2, a.1)) ?_ ?_ nw (fun a ha => ?_))).is ?_
      · rw [← enD_il]
        exact si_enum (ed_var rfl)
      · rw [List.length_map, List.length_range]
        omega
      · exact ed_tup (ea_cons (ed_var rfl) (ea_cons (ed_var rfl) ea_nil)) (by show 2 ≤ 1000; decide)
      · unfold prs
        rw [List.map_map, List.map_map]
        rfl
    · rw [(psrt_perm _).length_eq, prs_len]
      omega
    · exact ed_var rfl
    · unfold ordF il
      rw [List.map_map]
      rfl
end

section
variable {P : Program} {w : World} {K : PySem.W.Frag} {mg : Str → Option Value} {base : Heap}
def sp_ways (T : Tab K mg) : Sp := spX (α := List Int × Int) (fun a => [il a.1, .int a.2]) (fun a => okW a.1 ∧ 0 ≤ a.2) (fun a r => r = .int (Bp.wayF a.1 a.2)) (badTwo T)
theorem enW_at {ws : List Int} {i : Nat} {d : D} (h : (enD (ws.map D.int))[i]? = some d) : ∃ w, ws[i]? = some w ∧ d = .tup [.int (i : Int), .int w] := by
  unfold enD at h
  rw [List.getElem?_mapIdx, List.getElem?_map, Option.map_map] at h
  obtain ⟨w, hw, rfl⟩ := Option.map_eq_some_iff.mp h
  exact ⟨w, hw, rfl⟩
theorem enW_len (ws : List Int) : (enD (ws.map D.int)).length = ws.length := by
  unfold enD
  rw [List.length_mapIdx, List.length_map]
def gW (ws : List Int) (L : Int) (gr sm : List Int) (f : Int) (x y : Option Slo) (r : Option Slo) : Gm := ⟨[some (.v (il ws)), some (.v (.int L)), some (.v (il gr)), x, some (.v (il sm)), some (.v (.int f)), y, none, r], none⟩
theorem ok_ways (T : Tab K mg) : FnOk P w K mg base (L2.CX P w) 4 T.f_ways T.d_ways ["weights", "limit"] (sp_ways T) := by
  refine T.F_ways.okX sc_ways (fun vs H Q E h => ?_) (fun cdv A outer s H vs Q E hr h => ?_)
  · rcases h with ⟨a, S, _, da, _⟩ | ⟨ds, S, C, _, da, hb, _⟩
    · exact da.len
    · exact da.len.trans (by obtain ⟨d, e, rfl⟩ := badTwo_two hb; rfl)
  · refine ⟨_, (pss_cons (ps_expr (pe_call (ok_asked_two T) (hr.mono (by decide)) (by rfl) T.g_asked_two T.F_asked_two.kp T.b_asked_two .nil (passes_call (takes_of rfl rfl rfl rfl) (fun _ _ _ _ h => h)) (pa_cons (pv 0) (pa_cons (pv 1) pa_nil))))
      (pss_cons (ps_set (i := 2) sc_ways.nd rfl (by first | exact Or.inl rfl | exact Or.inr rfl) (pe_revL (pe_callB cr_sortedI (by rfl) T.z_sorted (by decide +kernel) (pa_cons (pe_lc (own := [("weight", 3)]) (g := gName 3) (by rfl) sc_ways.nd (pi_list (pv 0)) (blkOk_by (own := [("weight", 3)]) (N := ["weights", "limit", "great", "weight", "small", "found", "taken", "one", "rest"]) (sc := defScope s_ways) (by decide +kernel)) (fun _ _ _ _ _ => (pg_name (i := 3) sc_ways.nd rfl (by first | exact Or.inl rfl | exact Or.inr rfl))) (fun _ _ _ _ _ => (pts_one (pt_cmpR op_gt (pe_op op_mul pe_int (pv 3)) (pv 1) (nomark _)))) (fun _ _ _ _ _ => (pv 3))) pa_nil))))
      (pss_cons (ps_setLc (i := 4) (own := [("weight", 3)]) (g := gName 3) (by rfl) sc_ways.nd rfl rfl (sw_true rfl rfl rfl (by decide +kernel)) (pi_list (pv 0)) (blkOk_by (own := [("weight", 3)]) (N := ["weights", "limit", "great", "weight", "small", "found", "taken", "one", "rest"]) (sc := defScope s_ways) (by decide +kernel)) (fun _ _ _ _ _ => (pg_name (i := 3) sc_ways.nd rfl (by first | exact Or.inl rfl | exact Or.inr rfl))) (fun _ _ _ _ _ => (pts_one (pt_cmpR op_le (pe_op op_mul pe_int (pv 3)) (pv 1) (nomark _)))) (fun _ _ _ _ _ => (pv 3)))
      (pss_cons (ps_set (i := 5) sc_ways.nd rfl (by first | exact Or.inl rfl | exact Or.inr rfl) pe_int)
      (pss_cons (ps_for (passes_of rfl) rfl (pi_enum (by rfl) T.z_enumerate (pa_cons (pv 2) pa_nil)) (pg_tup rfl (pgs_cons (pg_name (i := 6) sc_ways.nd rfl (by first | exact Or.inl rfl | exact Or.inr rfl)) (pgs_cons (pg_name (i := 3) sc_ways.nd rfl (by first | exact Or.inl rfl | exact Or.inr rfl)) pgs_nil)))
        (pss_one (ps_set (i := 5) sc_ways.nd rfl (by first | exact Or.inl rfl | exact Or.inr rfl) (pe_op op_mul (pv 5) (pe_callB (cr_max2 rfl) (by rfl) T.z_max (by decide +kernel) (pa_cons pe_int (pa_cons (pe_op op_sub (pe_callB (crLen (K := K)) (by rfl) T.z_len (by decide +kernel) (pa_cons (pe_lc (own := [("one", 7)]) (g := gName 7) (by rfl) sc_ways.nd (pi_list (pv 4)) (blkOk_by (own := [("one", 7)]) (N := ["weights", "limit", "great", "weight", "small", "found", "taken", "one", "rest"]) (sc := defScope s_ways) (by decide +kernel)) (fun _ _ _ _ _ => (pg_name (i := 7) sc_ways.nd rfl (by first | exact Or.inl rfl | exact Or.inr rfl))) (fun _ _ _ _ _ => (pts_one (pt_cmpR op_le (pe_op op_add (pv 7) (pv 3)) (pv 1) (nomark _)))) (fun _ _ _ _ _ => (pv 7))) pa_nil)) (pv 6)) pa_nil)))))))
      (pss_cons (ps_set (i := 8) sc_ways.nd rfl (by first | exact Or.inl rfl | exact Or.inr rfl) (pe_op op_sub (pe_callB (crLen (K := K)) (by rfl) T.z_len (by decide +kernel) (pa_cons (pv 4) pa_nil)) (pe_callB (crLen (K := K)) (by rfl) T.z_len (by decide +kernel) (pa_cons (pv 2) pa_nil))))
      (pss_cons (ps_if (PW.pt (pw_or (pt_cmpR op_lt (pv 8) pe_int (nomark _)) (pw_or1 (pt_cmpR op_eq (pe_op op_mod (pv 8) pe_int) pe_int (nomark _))))) (pss_one (ps_ret pe_int)) pss_nil)
      (pss_cons (ps_while (passes_of rfl) (pt_cmpR op_gt (pv 8) pe_int (nomark _))
        (pss_cons (ps_set (i := 5) sc_ways.nd rfl (by first | exact Or.inl rfl | exact Or.inr rfl) (pe_op op_mul (pv 5) (pe_op op_sub (pv 8) pe_int)))
      (pss_one (ps_set (i := 8) sc_ways.nd rfl (by first | exact Or.inl rfl | exact Or.inr rfl) (pe_op op_sub (pv 8) pe_int)))))
      (pss_one (ps_ret (pv 5))))))))))), ?_⟩
    try simp only [kN, kC]
    rcases h with ⟨⟨ws, L⟩, S, inn, da, hp, q⟩ | ⟨ds, S, C, inn, da, hb, x⟩
    · refine run_defP (K := K) (E := E) (Xc := fun _ => False) inn da ?_ q (fun _ _ z => z.elim)
      obtain ⟨h1, h0⟩ := hp
      have hz : ws.length ≤ 500 := h1.1
      refine sg_seq (N1 := fun G => G = ini 9 [il ws, .int L]) (sg_callX (ds := [il ws, .int L]) (ea_cons (ed_var rfl) (ea_cons (ed_var rfl) ea_nil)) (.inl ⟨(ws, L), rfl, ⟨h1, h0⟩, rfl⟩)) fun G e => ?_
      subst e
      have gl : (Bp.grF ws L).length ≤ ws.length := Bp.grF_len ws L
      have ml : (Bp.smF ws L).length ≤ ws.length := List.length_filter_le _ _
      refine sq_set (d := il (Bp.grF ws L)) (En.toI (en_revI (En.toI (en_sorted (En.toI ((en_lcI (ns := ws) (f := fun w => decide (2 * w > L)) (e := D.int) (si_listI (ed_var rfl)) (by omega) nw (fun n _ => et_T (ed_IB (ed_IC ed_int (ed_var rfl) (.inl ⟨by decide, by decide⟩)) (ed_var rfl))) fun n _ _ => ed_var rfl))))))) nw ?_
      refine sq_set (d := il (Bp.smF ws L)) (En.toI (en_lcI (ns := ws) (f := fun w => decide (2 * w ≤ L)) (e := D.int) (si_listI (ed_var rfl)) (by omega) nw (fun n _ => et_T (ed_IB (ed_IC ed_int (ed_var rfl) (.inl ⟨by decide, by decide⟩)) (ed_var rfl))) fun n _ _ => ed_var rfl)) nw ?_
      refine sq_set ed_int nw ?_
      refine sg_seq (N1 := fun G => ∃ x y, G = gW ws L (Bp.grF ws L) (Bp.smF ws L) (Bp.prG L (Bp.smF ws L) (Bp.grF ws L) 0) x y none) (sg_for (si_enum (ds := (Bp.grF ws L).map D.int) (ed_var rfl)) (fun i G => ∃ x y, G = gW ws L (Bp.grF ws L) (Bp.smF ws L) (Bp.prG L (Bp.smF ws L) ((Bp.grF ws L).take i) 0) x y none) ⟨none, none, rfl⟩ ?_ ?_) ?_
      · rintro i d G hd ⟨x, y, rfl⟩
        obtain ⟨v, hv, rfl⟩ := enW_at hd
        refine ⟨_, _, tg_pair nw, ?_⟩
        have hi : i < (Bp.grF ws L).length := (List.getElem?_eq_some_iff.mp hv).1
        have cl : (Bp.ctS L (Bp.smF ws L) v).length ≤ (Bp.smF ws L).length := List.length_filter_le _ _
        refine sg_set (d := .int (Bp.prG L (Bp.smF ws L) ((Bp.grF ws L).take i) 0 * max 0 (((Bp.ctS L (Bp.smF ws L) v).length : Int) - (i : Int)))) (ed_IC (ed_var rfl) (ed_max2 ed_int (ed_II (ed_lenI (En.toI (en_lcI (ns := Bp.smF ws L) (f := fun w => decide (w + v ≤ L)) (e := D.int) (si_listI (ed_var rfl)) (by omega) nw (fun n _ => et_T (ed_IB (ed_II (ed_var rfl) (ed_var rfl)) (ed_var rfl))) fun n _ _ => ed_var rfl))) (ed_var rfl))) (.inr ⟨by show -(2 ^ 64) < max 0 (((Bp.ctS L (Bp.smF ws L) v).length : Int) - (i : Int)); omega, by show max 0 (((Bp.ctS L (Bp.smF ws L) v).length : Int) - (i : Int)) < 2 ^ 64; omega⟩)) nw ⟨some (.v (.int v)), some (.v (.int (i : Int))), ?_⟩
        rw [List.take_add_one, hv]
        show _ = gW ws L _ _ (Bp.prG L (Bp.smF ws L) ((Bp.grF ws L).take i ++ [v]) 0) _ _ _
        rw [Bp.prG_snoc, List.length_take, Nat.min_eq_left (by omega), Nat.zero_add]
        rfl
      · rintro G ⟨x, y, rfl⟩
        rw [enW_len, List.take_length]
        exact ⟨x, y, rfl⟩
      rintro G ⟨x, y, rfl⟩
      refine sq_set (ed_II (ed_lenI (ed_var rfl)) (ed_lenI (ed_var rfl))) nw ?_
      refine sq_when (b := decide (((Bp.smF ws L).length : Int) - ((Bp.grF ws L).length : Int) < 0) || decide ((((Bp.smF ws L).length : Int) - ((Bp.grF ws L).length : Int)) % 2 = 1)) (et_or (et_T (ed_IB (ed_var rfl) ed_int)) fun _ => et_T (ed_eqi (ed_IC (ed_var rfl) ed_int (by decide)) ed_int)) (fun h => sg_ret ed_int (congrArg D.int ?_)) (fun h => ?_)
      · show 0 = Bp.wayF ws L
        unfold Bp.wayF
        rw [if_pos]
        rw [Bool.or_eq_true, decide_eq_true_eq, decide_eq_true_eq] at h
        exact h
      rw [Bool.or_eq_false_iff, decide_eq_false_iff_not, decide_eq_false_iff_not] at h
      have we : Bp.wayF ws L = Bp.prG L (Bp.smF ws L) (Bp.grF ws L) 0 * Bp.oddF ((Bp.smF ws L).length - (Bp.grF ws L).length) := by
        unfold Bp.wayF
        rw [if_neg (fun z => z.elim h.1 h.2)]
      have re : ((Bp.smF ws L).length : Int) - ((Bp.grF ws L).length : Int) = (((Bp.smF ws L).length - (Bp.grF ws L).length : Nat) : Int) := by omega
      have r500 : (Bp.smF ws L).length - (Bp.grF ws L).length ≤ 500 := by omega
      generalize (Bp.smF ws L).length - (Bp.grF ws L).length = R at *
      refine sg_seq (N1 := fun G => ∃ r, G = gW ws L (Bp.grF ws L) (Bp.smF ws L) (Bp.wayF ws L) x y r) (sg_while (fun k G => ∃ f : Int, k ≤ 500 ∧ f * Bp.oddF k = Bp.wayF ws L ∧ G = gW ws L (Bp.grF ws L) (Bp.smF ws L) f x y (some (.v (.int (k : Int))))) R ⟨_, r500, we.symm, by rw [re]; rfl⟩ ?_) ?_
      · rintro k G ⟨f, hk, hf, rfl⟩
        refine ⟨decide ((k : Int) > 1), et_T (ed_IB (ed_var rfl) ed_int), fun e => ?_, fun e => ?_⟩
        · rw [decide_eq_true_eq] at e
          obtain ⟨j, rfl⟩ : ∃ j, k = j + 2 := ⟨k - 2, by omega⟩
          refine sq_set (d := .int (f * ((j : Int) + 1))) ((ed_IC (ed_var rfl) (ed_II (ed_var rfl) ed_int) (.inr ⟨by show -(2 ^ 64) < (((j + 2 : Nat) : Int) - 1); omega, by show (((j + 2 : Nat) : Int) - 1) < 2 ^ 64; omega⟩)).is ?_) nw ?_
          · rw [show ((j + 2 : Nat) : Int) - 1 = (j : Int) + 1 by omega]
          · refine sg_set (d := .int (j : Int)) ((ed_II (ed_var rfl) ed_int).is (by rw [show ((j + 2 : Nat) : Int) - 2 = (j : Int) by omega])) nw ⟨j, by omega, f * ((j : Int) + 1), by omega, ?_, rfl⟩
            rw [← hf, Bp.oddF_two, Int.mul_assoc]
        · rw [decide_eq_false_iff_not] at e
          have : Bp.oddF k = 1 := Bp.oddF_low (by omega)
          rw [this, Int.mul_one] at hf
          exact ⟨_, by rw [hf]⟩
      · rintro G ⟨r, rfl⟩
        exact sg_ret (ed_var rfl) rfl
    · obtain ⟨d, e, rfl⟩ := badTwo_two hb
      refine run_defP (K := K) (E := E) (Q := Q) (R := fun _ => False) (Xc := fun C' => C' = C) inn da ?_ (fun _ _ _ z => z.elim) (fun C' H' e z => by rw [show C' = C from e]; exact x H' z)
      refine sg_seq (N1 := fun _ => False) (sg_callX (ds := [d, e]) (ea_cons (ed_var rfl) (ea_cons (ed_var rfl) ea_nil)) (.inr ⟨C, hb, rfl⟩)) fun G e => e.elim
end

section
variable {P : Program} {w : World} {K : PySem.W.Frag} {mg : Str → Option Value} {base : Heap}
theorem ok_Heavyinit (T : Tab K mg) : FnOk P w K mg base CX0 1 T.f_Heavyinit T.d_Heavyinit ["self", "person"] (spHinit T.c_Heavy) := by
  refine T.F_Heavyinit.ok sc_Heavyinit (fun vs H Q E h => ?_) (fun cdv A outer s H vs Q E hr h => ?_)
  · obtain ⟨p, dx, x, rfl, _⟩ := h
    rfl
  · obtain ⟨p, dx, x, rfl, hp, q⟩ := h
    refine ⟨_, (pss_one (ps_fld (pv 0) (pv 1) rfl)), ?_⟩
    exact ⟨_, rfl, _, rfl, p, T.c_Heavy, dx, [], rfl, hp, T.cl_Heavy, T.n_Heavy_person, (by show 0 < 1000; decide), q⟩
end

section
variable {P : Program} {w : World} {K : PySem.W.Frag} {mg : Str → Option Value} {base : Heap}
def sp_Heavy_shows (T : Tab K mg) : Sp := spG (α := Int × List Int × Int) (fun a => [.hvy T.c_Heavy (.int a.1), il a.2.1, .int a.2.2]) (fun _ => True) (fun a r => r = .bl (Bp.heavyF a.2.1 a.2.2 a.1))
theorem ok_Heavy_shows (T : Tab K mg) : FnOk P w K mg base CX0 1 T.f_Heavy_shows T.d_Heavy_shows ["self", "weights", "limit"] (sp_Heavy_shows T) := by
  refine T.F_Heavy_shows.ok sc_Heavy_shows (fun vs H Q E h => ?_) (fun cdv A outer s H vs Q E hr h => ?_)
  · obtain ⟨a, S, _, da, _⟩ := h
    exact da.len
  · obtain ⟨⟨p, ws, L⟩, S, inn, da, hp, q⟩ := h
    refine ⟨_, (pss_one (ps_ret (pe_and (pe_chain op_le op_lt pe_int (pe_fld (pv 0) rfl) (pe_callB (crLen (K := K)) (by rfl) T.z_len (by decide +kernel) (pa_cons (pv 1) pa_nil))) (pe_one (pe_cmpR op_gt (pe_ix (ixL (K := K)) (pv 1) (pe_fld (pv 0) rfl) (fun _ _ => rfl)) (pv 2) (nomark _)))))), run_defP (K := K) (E := E) (Xc := fun _ => False) inn da ?_ q (fun _ _ z => z.elim)⟩
    try simp only [kN, kC]
    refine sg_ret (d := .bl (Bp.heavyF ws L p)) ?_ rfl
    refine ed_and (a := decide (0 ≤ p) && decide (p < (ws.length : Int))) (b := decide (L < Bp.wt ws p)) ?_ fun h => ?_
    · exact ed_chain ed_int (ed_fldP (ed_var rfl) T.cl_Heavy T.n_Heavy_person) (ed_lenI (ed_var rfl))
    · rw [Bool.and_eq_true, decide_eq_true_eq, decide_eq_true_eq] at h
      exact ed_IB (ed_ixI (ed_var rfl) (ed_fldP (ed_var rfl) T.cl_Heavy T.n_Heavy_person) (Bp.atI_wt h.1 h.2)) (ed_var rfl)
end

section
variable {P : Program} {w : World} {K : PySem.W.Frag} {mg : Str → Option Value} {base : Heap}
theorem nbm : ¬ (("boats" : Str) = "mark") := by decide +kernel
theorem put_bm {x y : V} : putF "mark" y (putF "boats" x []) = [(("boats" : Str), x), (("mark" : Str), y)] := by
  show (if ("boats" : Str) = "mark" then [(("boats" : Str), y)] else (("boats" : Str), x) :: [(("mark" : Str), y)]) = ([(("boats" : Str), x), (("mark" : Str), y)] : List (Str × V))
  rw [if_neg nbm]
theorem ok_Boatsinit (T : Tab K mg) : FnOk P w K mg base CX0 1 T.f_Boatsinit T.d_Boatsinit ["self", "boats", "mark"] (spBinit T.c_Boats) := by
  refine T.F_Boatsinit.ok sc_Boatsinit (fun vs H Q E h => ?_) (fun cdv A outer s H vs Q E hr h => ?_)
  · obtain ⟨p, dx, b, xs, y, rfl, _⟩ := h
    rfl
  · obtain ⟨p, dx, b, xs, y, rfl, hp, hb, q⟩ := h
    refine ⟨_, (pss_cons (ps_fld (pv 0) (pe_callTy cr_list (by rfl) T.z_list (by decide +kernel) (pa_cons (pv 1) pa_nil)) rfl)
      (pss_one (ps_fld (pv 0) (pv 2) rfl))), ?_⟩
    refine ⟨_, rfl, b, xs, rfl, .inl (SqL.of hb), fun l hl => ?_⟩
    have npl : p ≠ l := ne_of_none hp hl
    refine ⟨_, rfl, p, T.c_Boats, dx, [], rfl, by rw [upd_ne npl]; exact hp, T.cl_Boats, T.n_Boats_boats, (by show 0 < 1000; decide), ?_⟩
    refine ⟨_, rfl, _, rfl, p, T.c_Boats, dx, _, rfl, upd_same, T.cl_Boats, T.n_Boats_mark, (by show 1 < 1000; decide), ?_⟩
    refine q l _ hl ?_ ?_ fun a n1 n2 => ?_
    · rw [upd_same, put_bm]
    · rw [upd_ne npl.symm, upd_ne npl.symm, upd_same]
    · rw [upd_ne n1, upd_ne n1, upd_ne n2]
end

section
variable {P : Program} {w : World} {K : PySem.W.Frag} {mg : Str → Option Value} {base : Heap}
def sp_Boats_shows (T : Tab K mg) : Sp := spG (α := List (List Int) × Int × List Int × Int) (fun a => [.bts T.c_Boats (btl a.1) (.int a.2.1), il a.2.2.1, .int a.2.2.2])
  (fun a => a.1.flatten.length ≤ 500 ∧ a.1.length ≤ 500 ∧ a.2.2.1.length ≤ 500) (fun a r => r = .bl (Bp.showsF a.2.2.1 a.2.2.2 a.1 a.2.1))
theorem ed_bound {Γ : Gm} {E : XK} {ta : TA} {ws : List Int} {L m : Int} (h : Ea K ta Γ [il ws, .int L, .int m]) (hz : ws.length ≤ 500) : Ed K (tCall sp_bound [] E ta) Γ (.int (Bp.bnd ws L m)) := (eg_call (ws, L, m) h hz).toEd
/-- the slots of shows -/
def gS (C : Addr) (bs : List (List Int)) (m : Int) (ws : List Int) (L : Int) (pp bo : Option Slo) : List (Option Slo) := [some (.v (.bts C (btl bs) (.int m))), some (.v (il ws)), some (.v (.int L)), pp, bo, none]
theorem ok_Boats_shows (T : Tab K mg) : FnOk P w K mg base CX0 3 T.f_Boats_shows T.d_Boats_shows ["self", "weights", "limit"] (sp_Boats_shows T) := by
  refine T.F_Boats_shows.ok sc_Boats_shows (fun vs H Q E h => ?_) (fun cdv A outer s H vs Q E hr h => ?_)
  · obtain ⟨a, S, _, da, _⟩ := h
    exact da.len
  · obtain ⟨⟨bs, m, ws, L⟩, S, inn, da, hp, q⟩ := h
    refine ⟨_, (pss_cons (ps_set (i := 3) sc_Boats_shows.nd rfl (by first | exact Or.inl rfl | exact Or.inr rfl) (pe_lst pa_nil))
      (pss_cons (ps_for PassesOwn.never rfl (pi_list (pe_fld (pv 0) rfl)) (pg_name (i := 4) sc_Boats_shows.nd rfl (by first | exact Or.inl rfl | exact Or.inr rfl))
        (pss_one (ps_expr (pe_bm PySem.F.plainAttrs_list PySem.F.slot_list_extend PySem.F.type_list_extend mt_extendT (pv 3) (pa_cons (pv 4) pa_nil)))))
      (pss_cons (ps_if (pt_cmpR (op_neD hr.units) (pe_callB cr_sortedI (by rfl) T.z_sorted (by decide +kernel) (pa_cons (pv 3) pa_nil)) (pe_listRg rfl (by rfl) T.z_list (prg_1 (by rfl) T.z_range (pe_callB (crLen (K := K)) (by rfl) T.z_len (by decide +kernel) (pa_cons (pv 1) pa_nil)))) (nomark _)) (pss_one (ps_ret pe_bl)) pss_nil)
      (pss_cons (ps_for PassesOwn.never rfl (pi_list (pe_fld (pv 0) rfl)) (pg_name (i := 4) sc_Boats_shows.nd rfl (by first | exact Or.inl rfl | exact Or.inr rfl))
        (pss_cons (ps_if (PW.pt (pw_or (pt_not (pt_chain op_le op_le pe_int (pe_callB (crLen (K := K)) (by rfl) T.z_len (by decide +kernel) (pa_cons (pv 4) pa_nil)) pe_int)) (pw_or1 (pt_cmpR (op_neD hr.units) (pe_callTy cr_list (by rfl) T.z_list (by decide +kernel) (pa_cons (pv 4) pa_nil)) (pe_callB cr_sortedTp (by rfl) T.z_sorted (by decide +kernel) (pa_cons (pv 4) pa_nil)) (nomark _))))) (pss_one (ps_ret pe_bl)) pss_nil)
      (pss_one (ps_if (pt_cmpR op_gt (pe_callB (cr_sum rfl) (by rfl) T.z_sum (by decide +kernel) (pa_cons (pe_lc (own := [("person", 5)]) (g := gName 5) (by rfl) sc_Boats_shows.nd (pi_tup (pv 4)) (blkOk_by (own := [("person", 5)]) (N := ["self", "weights", "limit", "people", "boat", "person"]) (sc := defScope s_Boats_shows) (by decide +kernel)) (fun _ _ _ _ _ => (pg_name (i := 5) sc_Boats_shows.nd rfl (by first | exact Or.inl rfl | exact Or.inr rfl))) (fun _ _ _ _ _ => (pts_nil)) (fun _ _ _ _ _ => (pe_ix (ixL (K := K)) (pv 1) (pv 5) (fun _ _ => rfl)))) pa_nil)) (pv 2) (nomark _)) (pss_one (ps_ret pe_bl)) pss_nil))))
      (pss_cons (ps_if (PW.pt (pw_or (pt_cmpR op_lt (pe_fld (pv 0) rfl) pe_int (nomark _)) (pw_or1 (pt_cmpR op_gt (pe_op op_mul pe_int (pe_fld (pv 0) rfl)) (pe_op op_add (pv 2) pe_int) (nomark _))))) (pss_one (ps_ret pe_bl)) pss_nil)
      (pss_one (ps_ret (pe_cmpR op_eq (pe_callB (crLen (K := K)) (by rfl) T.z_len (by decide +kernel) (pa_cons (pe_fld (pv 0) rfl) pa_nil)) (pe_call (ok_bound T) (hr.mono (by decide)) (by rfl) T.g_bound T.F_bound.kp T.b_bound .nil pass0 (pa_cons (pv 1) (pa_cons (pv 2) (pa_cons (pe_fld (pv 0) rfl) pa_nil)))) (nomark _))))))))), run_defP (K := K) (E := E) (Xc := fun _ => False) inn da ?_ q (fun _ _ z => z.elim)⟩
    try simp only [kN, kC]
    obtain ⟨hp1, hp2, hp3⟩ : bs.flatten.length ≤ 500 ∧ bs.length ≤ 500 ∧ ws.length ≤ 500 := hp
    have rB : ∀ b : Bool, Bp.showsF ws L bs m = b → (fun a r => r = D.bl (Bp.showsF a.2.2.1 a.2.2.2 a.1 a.2.1)) (bs, m, ws, L) (D.bl b) := fun b e => by rw [← e]
    refine sq_own (ds := []) (en_lst ea_nil (by decide)) (by show 3 < 6; decide) ?_
    refine sg_seq (N1 := fun G => ∃ bo, G = ⟨gS T.c_Boats bs m ws L none bo, some (3, .lst (bs.flatten.map D.int))⟩) (sg_for (si_listB (bs := bs) (ed_fldB (ed_var rfl) T.cl_Boats T.n_Boats_boats)) (fun i G => ∃ bo, G = ⟨gS T.c_Boats bs m ws L none bo, some (3, .lst ((bs.take i).flatten.map D.int))⟩) ⟨none, rfl⟩ ?_ ?_) ?_
    · rintro i d G hd ⟨bo, rfl⟩
      rw [List.getElem?_map] at hd
      obtain ⟨b, hb, rfl⟩ := Option.map_eq_some_iff.mp hd
      refine ⟨_, _, tg_name (fun x hx => by cases hx; show 3 ≠ 4; decide), ?_⟩
      have fl := Bp.flat_le hb
      refine sg_extT rfl (ed_var rfl) (by rw [List.length_map, List.length_map]; omega) ⟨some (.v (itup b)), ?_⟩
      rw [Bp.take_flat hb, List.map_append]
      rfl
    · rintro G ⟨bo, rfl⟩
      rw [List.length_map, List.take_length]
      exact ⟨bo, rfl⟩
    · rintro G ⟨bo, rfl⟩
      refine sg_free rfl ?_
      have tst : Et K _ ⟨gS T.c_Boats bs m ws L (some (.v (il bs.flatten))) bo, none⟩ (!decide (srt bs.flatten = Bp.rng ws.length)) := et_T (ed_neI (En.toI (en_sorted (ed_var (i := 3) rfl))) (En.toI ((en_listRg (ed_lenI (ed_var (i := 1) rfl)) (by omega)).is (by rw [Int.toNat_natCast, Bp.rng_map]))))
      refine sq_when tst (fun h => sg_ret ed_bl (rB _ ?_)) (fun h => ?_)
      · rw [Bool.not_eq_true', decide_eq_false_iff_not] at h
        unfold Bp.showsF
        rw [decide_eq_false h]
        simp
      · have hpm : srt bs.flatten = Bp.rng ws.length := by
          rw [Bool.not_eq_false', decide_eq_true_eq] at h
          exact h
        have inR : ∀ b ∈ bs, ∀ p ∈ b, 0 ≤ p ∧ p < (ws.length : Int) := fun b hb p hp => by
          have := (Bp.srt_rng.mp hpm).mem_iff.mp (List.mem_flatten.mpr ⟨b, hb, hp⟩)
          exact Bp.mem_rng.mp this
        refine sg_seq (N1 := fun G => bs.all (Bp.okBoat ws L) = true ∧ ∃ bo, G = ⟨gS T.c_Boats bs m ws L (some (.v (il bs.flatten))) bo, none⟩) (sg_for (si_listB (bs := bs) (ed_fldB (ed_var rfl) T.cl_Boats T.n_Boats_boats)) (fun i G => (bs.take i).all (Bp.okBoat ws L) = true ∧ ∃ bo, G = ⟨gS T.c_Boats bs m ws L (some (.v (il bs.flatten))) bo, none⟩) ⟨rfl, bo, rfl⟩ ?_ ?_) ?_
        · rintro i d G hd ⟨hall, bo, rfl⟩
          rw [List.getElem?_map] at hd
          obtain ⟨b, hb, rfl⟩ := Option.map_eq_some_iff.mp hd
          refine ⟨_, _, tg_name nw, ?_⟩
          have hbm := List.mem_of_getElem? hb
          have fl := Bp.flat_le hb
          have bad : Bp.okBoat ws L b = false → Bp.showsF ws L bs m = false := fun e => by
            unfold Bp.showsF
            rw [Bp.not_all hb e]
            simp
          refine sq_when (b := !(decide (1 ≤ (b.length : Int)) && decide ((b.length : Int) ≤ 2)) || !decide (b = srt b)) ?_ (fun h => sg_ret ed_bl (rB _ (bad ?_))) (fun h => ?_)
          · exact et_or (et_not (et_T (ed_chain ed_int (ed_lenIT (ed_var rfl)) ed_int))) fun _ => et_T (ed_neI (En.toI (en_listT (ed_var rfl))) (En.toI (en_sortedT (ed_var rfl))))
          · unfold Bp.okBoat
            rw [Bool.or_eq_true] at h
            rcases h with h | h
            · have : ¬ (1 ≤ b.length ∧ b.length ≤ 2) := fun z => by
                rw [decide_eq_true (show (1 : Int) ≤ (b.length : Int) by omega), decide_eq_true (show (b.length : Int) ≤ 2 by omega)] at h
                cases h
              rw [decide_eq_false this]
              simp
            · rw [Bool.not_eq_true', decide_eq_false_iff_not] at h
              rw [decide_eq_false h]
              simp
          · rw [Bool.or_eq_false_iff, Bool.not_eq_false', Bool.not_eq_false', Bool.and_eq_true, decide_eq_true_eq, decide_eq_true_eq, decide_eq_true_eq] at h
            obtain ⟨⟨l1, l2⟩, l3⟩ := h
            refine sg_if (b := decide (L < (b.map (Bp.wt ws)).sum)) ?_ (fun h => sg_ret ed_bl (rB _ (bad ?_))) (fun h => sg_next ⟨Bp.take_all hb hall ?_, _, rfl⟩)
            · refine et_T (ed_IB (ed_sum (En.toI ((en_lcIy (ns := b) (e := fun p => .int (Bp.wt ws p)) ?_ (by omega) nw fun p hp => ?_).is (by rw [List.map_map]; rfl)))) (ed_var rfl))
              · exact si_tupI (ed_var rfl)
              · have z := inR b hbm p hp
                exact ed_ixI (ed_var rfl) (ed_var rfl) (Bp.atI_wt z.1 z.2)
            · rw [decide_eq_true_eq] at h
              unfold Bp.okBoat
              rw [decide_eq_false (show ¬ (b.map (Bp.wt ws)).sum ≤ L by omega)]
              simp
            · rw [decide_eq_false_iff_not] at h
              unfold Bp.okBoat
              rw [decide_eq_true (show 1 ≤ b.length ∧ b.length ≤ 2 by omega), decide_eq_true l3, decide_eq_true (show (b.map (Bp.wt ws)).sum ≤ L by omega)]
              rfl
        · rintro G ⟨hall, bo, rfl⟩
          rw [List.length_map, List.take_length] at hall
          exact ⟨hall, bo, rfl⟩
        · rintro G ⟨hall, bo, rfl⟩
          refine sq_when (b := decide (m < 0) || decide (L + 1 < 2 * m)) ?_ (fun h => sg_ret ed_bl (rB _ ?_)) (fun h => ?_)
          · exact et_or (et_T (ed_IB (ed_fldM (ed_var rfl) T.cl_Boats T.n_Boats_mark) ed_int)) fun _ => et_T (ed_IB (ed_IC ed_int (ed_fldM (ed_var rfl) T.cl_Boats T.n_Boats_mark) (.inl ⟨by decide, by decide⟩)) (ed_II (ed_var rfl) ed_int))
          · have : ¬ (0 ≤ m ∧ 2 * m ≤ L + 1) := fun z => by
              rw [decide_eq_false (show ¬ m < 0 by omega), decide_eq_false (show ¬ L + 1 < 2 * m by omega)] at h
              cases h
            unfold Bp.showsF
            rw [decide_eq_false this]
            simp
          · rw [Bool.or_eq_false_iff, decide_eq_false_iff_not, decide_eq_false_iff_not] at h
            refine sg_ret ?_ (rB _ rfl)
            refine (ed_eqi (ed_lenB (ed_fldB (ed_var rfl) T.cl_Boats T.n_Boats_boats)) (ed_bound (ea_cons (ed_var rfl) (ea_cons (ed_var rfl) (ea_cons (ed_fldM (ed_var rfl) T.cl_Boats T.n_Boats_mark) ea_nil))) hp3)).is ?_
            unfold Bp.showsF
            rw [decide_eq_true hpm, hall, decide_eq_true (show 0 ≤ m ∧ 2 * m ≤ L + 1 by omega)]
            simp
end

section
variable {P : Program} {w : World} {K : PySem.W.Frag} {mg : Str → Option Value} {base : Heap}
/-- the marks that are tried -/
def mkF (ws : List Int) (L : Int) : List Int := [0] ++ (ws.map fun w => [w, L - w + 1]).flatten
def marksF (ws : List Int) (L : Int) : List Int := (ups (mkF ws L)).filter fun m => decide (0 ≤ m) && decide (2 * m ≤ L + 1)
theorem mem_marks {ws : List Int} {L m : Int} : m ∈ marksF ws L ↔ (m = 0 ∨ ∃ w ∈ ws, m = w ∨ m = L - w + 1) ∧ Bp.okm L m := by
  unfold marksF mkF
  rw [List.mem_filter, mem_ups, Bool.and_eq_true, decide_eq_true_eq, decide_eq_true_eq, List.mem_append, List.mem_singleton, List.mem_flatten]
  constructor
  · rintro ⟨h, h1, h2⟩
    refine ⟨?_, h1, h2⟩
    rcases h with h | ⟨l, hl, hm⟩
    · exact .inl h
    · obtain ⟨w, hw, rfl⟩ := List.mem_map.mp hl
      simp at hm
      exact .inr ⟨w, hw, hm⟩
  · rintro ⟨h, h1, h2⟩
    refine ⟨?_, h1, h2⟩
    rcases h with h | ⟨w, hw, hm⟩
    · exact .inl h
    · exact .inr ⟨_, List.mem_map.mpr ⟨w, hw, rfl⟩, by simpa using hm⟩
theorem mkF_len (L : Int) : ∀ ws : List Int, (mkF ws L).length = 1 + 2 * ws.length
  | [] => rfl
  | w :: r => by
    have ih := mkF_len L r
    unfold mkF at *
    simp only [List.map_cons, List.flatten_cons, List.length_append, List.length_cons, List.length_nil] at *
    omega
def sp_marks : Sp := spG (α := List Int × Int) (fun a => [il a.1, .int a.2]) (fun a => a.1.length ≤ 200) (fun a r => r = il (marksF a.1 a.2))
theorem ok_marks (T : Tab K mg) : FnOk P w K mg base CX0 1 T.f_marks T.d_marks ["weights", "limit"] (sp_marks) := by
  refine T.F_marks.ok sc_marks (fun vs H Q E h => ?_) (fun cdv A outer s H vs Q E hr h => ?_)
  · obtain ⟨a, S, _, da, _⟩ := h
    exact da.len
  · obtain ⟨⟨ws, L⟩, S, inn, da, hp, q⟩ := h
    refine ⟨_, (pss_cons (ps_set (i := 2) sc_marks.nd rfl (by first | exact Or.inl rfl | exact Or.inr rfl) (pe_lst (pa_cons pe_int pa_nil)))
      (pss_cons (ps_for PassesOwn.never rfl (pi_list (pv 0)) (pg_name (i := 3) sc_marks.nd rfl (by first | exact Or.inl rfl | exact Or.inr rfl))
        (pss_one (ps_expr (pe_bm PySem.F.plainAttrs_list PySem.F.slot_list_extend PySem.F.type_list_extend mt_extend (pv 2) (pa_cons (pe_lst (pa_cons (pv 3) (pa_cons (pe_op op_add (pe_op op_sub (pv 1) (pv 3)) pe_int) pa_nil))) pa_nil)))))
      (pss_one (ps_ret (pe_lc (own := [("mark", 4)]) (g := gName 4) (by rfl) sc_marks.nd (pi_list (pe_callB (cr_sortedE rfl) (by rfl) T.z_sorted (by decide +kernel) (pa_cons (pe_callTy (cr_setL rfl) (by rfl) T.z_set (by decide +kernel) (pa_cons (pv 2) pa_nil)) pa_nil))) (blkOk_by (own := [("mark", 4)]) (N := ["weights", "limit", "found", "weight", "mark"]) (sc := defScope s_marks) (by decide +kernel)) (fun _ _ _ _ _ => (pg_name (i := 4) sc_marks.nd rfl (by first | exact Or.inl rfl | exact Or.inr rfl))) (fun _ _ _ _ _ => (pts_one (PW.pt (pw_and (pt_cmpR op_ge (pv 4) pe_int (nomark _)) (pw_and1 (pt_cmpR op_le (pe_op op_mul pe_int (pv 4)) (pe_op op_add (pv 1) pe_int) (nomark _))))))) (fun _ _ _ _ _ => (pv 4))))))), run_defP (K := K) (E := E) (Xc := fun _ => False) inn da ?_ q (fun _ _ z => z.elim)⟩
    try simp only [kN, kC]
    replace hp : ws.length ≤ 200 := hp
    refine sq_own (ds := [.int 0]) (en_lst (ea_cons ed_int ea_nil) (by decide)) (by show 2 < 5; decide) ?_
    refine sg_seq (N1 := fun G => ∃ x, G = ⟨[some (.v (il ws)), some (.v (.int L)), none, x, none], some (2, .lst ((mkF ws L).map D.int))⟩) (sg_for (si_listI (ns := ws) (ed_var rfl)) (fun i G => ∃ x, G = ⟨[some (.v (il ws)), some (.v (.int L)), none, x, none], some (2, .lst ((mkF (ws.take i) L).map D.int))⟩) ⟨none, rfl⟩ ?_ ?_) ?_
    · rintro i d G hd ⟨x, rfl⟩
      rw [List.getElem?_map] at hd
      obtain ⟨v, hv, rfl⟩ := Option.map_eq_some_iff.mp hd
      refine ⟨_, _, tg_name (fun x hx => by cases hx; show 2 ≠ 3; decide), ?_⟩
      refine sg_ext (es := [.int v, .int (L - v + 1)]) rfl (En.toEd (en_lst (ea_cons (ed_var rfl) (ea_cons (ed_II (ed_II (ed_var rfl) (ed_var rfl)) ed_int) ea_nil)) (by show 2 ≤ 1000; decide))) ?_ ⟨some (.v (.int v)), ?_⟩
      · rw [List.length_map, mkF_len, List.length_take]
        show 1 + 2 * min i ws.length + 2 ≤ 1000
        omega
      · have e : mkF (ws.take (i + 1)) L = mkF (ws.take i) L ++ [v, L - v + 1] := by
          unfold mkF
          rw [List.take_add_one, hv, List.map_append, List.flatten_append, ← List.append_assoc]
          rfl
        rw [e, List.map_append]
        rfl
    · rintro G ⟨x, rfl⟩
      rw [List.length_map, List.take_length]
      exact ⟨x, rfl⟩
    · rintro G ⟨x, rfl⟩
      refine sg_free rfl ?_
      refine sg_ret (En.toI (en_lcI (ns := ups (mkF ws L)) (f := fun m => decide (0 ≤ m) && decide (2 * m ≤ L + 1)) (e := D.int) ?_ ?_ nw (fun n hn => ?_) (fun n hn _ => ed_var rfl))) rfl
      · refine si_listI (En.toI (en_sortedSet (ns := mkF ws L) (ed_var rfl) ?_))
        rw [mkF_len]
        omega
      · have := ups_len (mkF ws L)
        rw [mkF_len] at this
        omega
      · exact et_and (et_T (ed_IB (ed_var rfl) ed_int)) fun _ => et_T (ed_IB (ed_IC ed_int (ed_var rfl) (.inl ⟨by decide, by decide⟩)) (ed_II (ed_var rfl) ed_int))
end

section
variable {P : Program} {w : World} {K : PySem.W.Frag} {mg : Str → Option Value} {base : Heap}
def sp_boats_of : Sp := spG (α := List Int × Int) (fun a => [il a.1, .int a.2]) (fun a => a.1.length ≤ 200 ∧ 0 ≤ a.2 ∧ ∀ w ∈ a.1, 1 ≤ w ∧ w ≤ a.2)
  (fun a r => ∃ bs, r = btl bs ∧ Bp.Good a.1 a.2 bs ∧ ∃ m, Bp.okm a.2 m ∧ (m = 0 ∨ ∃ w ∈ a.1, m = a.2 - w + 1) ∧ Bp.bnd a.1 a.2 m = (bs.length : Int))
theorem ed_in_order {Γ : Gm} {E : XK} {ta : TA} {ws : List Int} (h : Ea K ta Γ [il ws]) (hz : ws.length ≤ 500) : Ed K (tCall sp_in_order [] E ta) Γ (il (ordF ws)) := (eg_call ws h hz).toEd
def gB (ws : List Int) (L : Int) (lo hi : Int) (bs : List (List Int)) : Gm := ⟨[some (.v (il ws)), some (.v (.int L)), some (.v (il (ordF ws))), none, some (.v (.int lo)), some (.v (.int hi))], some (3, .lst (bs.map itup))⟩
theorem ok_boats_of (T : Tab K mg) : FnOk P w K mg base CX0 2 T.f_boats_of T.d_boats_of ["weights", "limit"] (sp_boats_of) := by
  refine T.F_boats_of.ok sc_boats_of (fun vs H Q E h => ?_) (fun cdv A outer s H vs Q E hr h => ?_)
  · obtain ⟨a, S, _, da, _⟩ := h
    exact da.len
  · obtain ⟨⟨ws, L⟩, S, inn, da, hp, q⟩ := h
    refine ⟨_, (pss_cons (ps_set (i := 2) sc_boats_of.nd rfl (by first | exact Or.inl rfl | exact Or.inr rfl) (pe_call (ok_in_order T) (hr.mono (by decide)) (by rfl) T.g_in_order T.F_in_order.kp T.b_in_order .nil pass0 (pa_cons (pv 0) pa_nil)))
      (pss_cons (ps_set (i := 3) sc_boats_of.nd rfl (by first | exact Or.inl rfl | exact Or.inr rfl) (pe_lst pa_nil))
      (pss_cons (ps_set (i := 4) sc_boats_of.nd rfl (by first | exact Or.inl rfl | exact Or.inr rfl) pe_int)
      (pss_cons (ps_set (i := 5) sc_boats_of.nd rfl (by first | exact Or.inl rfl | exact Or.inr rfl) (pe_op op_sub (pe_callB (crLen (K := K)) (by rfl) T.z_len (by decide +kernel) (pa_cons (pv 2) pa_nil)) pe_int))
      (pss_cons (ps_while PassesOwn.never (pt_cmpR op_le (pv 4) (pv 5) (nomark _))
        (pss_cons (ps_if (PW.pt (pw_and (pt_cmpR op_lt (pv 4) (pv 5) (nomark _)) (pw_and1 (pt_cmpR op_le (pe_op op_add (pe_ix (ixL (K := K)) (pv 0) (pe_ix (ixL (K := K)) (pv 2) (pv 4) (fun _ _ => rfl)) (fun _ _ => rfl)) (pe_ix (ixL (K := K)) (pv 0) (pe_ix (ixL (K := K)) (pv 2) (pv 5) (fun _ _ => rfl)) (fun _ _ => rfl))) (pv 1) (nomark _))))) (pss_cons (ps_expr (pe_bm PySem.F.plainAttrs_list PySem.F.slot_list_append PySem.F.type_list_append mt_append (pv 3) (pa_cons (pe_tup (pa_cons (pe_callB (cr_min2 rfl) (by rfl) T.z_min (by decide +kernel) (pa_cons (pe_ix (ixL (K := K)) (pv 2) (pv 4) (fun _ _ => rfl)) (pa_cons (pe_ix (ixL (K := K)) (pv 2) (pv 5) (fun _ _ => rfl)) pa_nil))) (pa_cons (pe_callB (cr_max2 rfl) (by rfl) T.z_max (by decide +kernel) (pa_cons (pe_ix (ixL (K := K)) (pv 2) (pv 4) (fun _ _ => rfl)) (pa_cons (pe_ix (ixL (K := K)) (pv 2) (pv 5) (fun _ _ => rfl)) pa_nil))) pa_nil))) pa_nil)))
      (pss_one (ps_set (i := 4) sc_boats_of.nd rfl (by first | exact Or.inl rfl | exact Or.inr rfl) (pe_op op_add (pv 4) pe_int)))) (pss_one (ps_expr (pe_bm PySem.F.plainAttrs_list PySem.F.slot_list_append PySem.F.type_list_append mt_append (pv 3) (pa_cons (pe_tup (pa_cons (pe_ix (ixL (K := K)) (pv 2) (pv 5) (fun _ _ => rfl)) pa_nil)) pa_nil)))))
      (pss_one (ps_set (i := 5) sc_boats_of.nd rfl (by first | exact Or.inl rfl | exact Or.inr rfl) (pe_op op_sub (pv 5) pe_int)))))
      (pss_one (ps_ret (pv 3)))))))), run_defP (K := K) (E := E) (Xc := fun _ => False) inn da ?_ q (fun _ _ z => z.elim)⟩
    try simp only [kN, kC]
    obtain ⟨hp1, hp2, hp3⟩ : ws.length ≤ 200 ∧ 0 ≤ L ∧ ∀ w ∈ ws, 1 ≤ w ∧ w ≤ L := hp
    have O := ordF_ord ws
    have ol := O.len
    have inR : ∀ p ∈ ordF ws, 0 ≤ p ∧ p < (ws.length : Int) := fun p h => Bp.mem_rng.mp (O.perm.mem_iff.mp h)
    have inL : ∀ p ∈ ordF ws, Bp.wt ws p ≤ L := fun p h => (hp3 _ (O.map.mem_iff.mp (List.mem_map_of_mem h))).2
    refine sq_set (ed_in_order (ea_cons (ed_var rfl) ea_nil) (by omega)) nw ?_
    refine sq_own (ds := []) (en_lst ea_nil (by decide)) (by show 3 < 6; decide) ?_
    refine sq_set ed_int (fun x hx => by cases hx; show 3 ≠ 4; decide) ?_
    refine sq_set (ed_II (ed_lenI (ed_var (i := 2) rfl)) ed_int) (fun x hx => by cases hx; show 3 ≠ 5; decide) ?_
    refine sg_seq (N1 := fun G => ∃ (lo h : Nat) (bs : List (List Int)), h ≤ lo ∧ Bp.Gr ws L (ordF ws) lo h bs ∧ G = gB ws L lo ((h : Int) - 1) bs)
      (sg_while (fun k G => ∃ (lo h : Nat) (bs : List (List Int)), k = h - lo ∧ Bp.Gr ws L (ordF ws) lo h bs ∧ G = gB ws L lo ((h : Int) - 1) bs) (ordF ws).length ⟨0, _, [], rfl, Bp.Gr.start ws L _, rfl⟩ ?_) ?_
    · rintro k G ⟨lo, h, bs, rfl, gr, rfl⟩
      refine ⟨decide ((lo : Int) ≤ (h : Int) - 1), et_T (ed_IB (ed_var rfl) (ed_var rfl)), fun e => ?_, fun e => ⟨lo, h, bs, ?_, gr, rfl⟩⟩
      · rw [decide_eq_true_eq] at e
        obtain ⟨h', rfl⟩ : ∃ h', h = h' + 1 := ⟨h - 1, by omega⟩
        have hc : ((h' + 1 : Nat) : Int) - 1 = (h' : Int) := by omega
        rw [hc]
        have hlen := gr.hn
        have gh : h' < (ordF ws).length := by omega
        have gl : lo < (ordF ws).length := by omega
        have bh : (ordF ws)[h']? = some (ordF ws)[h'] := List.getElem?_eq_getElem gh
        have bl : (ordF ws)[lo]? = some (ordF ws)[lo] := List.getElem?_eq_getElem gl
        have rh := inR _ (List.getElem_mem gh)
        have rl := inR _ (List.getElem_mem gl)
        have wh := inL _ (List.getElem_mem gh)
        have bsl : bs.length < 1000 := by
          have := gr.cnt
          omega
        have ixh : ∀ {Γ : Gm} {te : TE}, Γ.g[2]? = some (some (.v (il (ordF ws)))) → Ed K te Γ (.int (h' : Int)) → Ed K (tOp (rIxL K) (tVar 2) te) Γ (.int (ordF ws)[h']) := fun e1 e2 => ed_ixI (ed_var e1) e2 (atI_nat bh)
        have ixl : ∀ {Γ : Gm} {te : TE}, Γ.g[2]? = some (some (.v (il (ordF ws)))) → Ed K te Γ (.int (lo : Int)) → Ed K (tOp (rIxL K) (tVar 2) te) Γ (.int (ordF ws)[lo]) := fun e1 e2 => ed_ixI (ed_var e1) e2 (atI_nat bl)
        refine sg_seq (N1 := fun G => ∃ (lo' : Nat) (bs' : List (List Int)), lo' ≤ h' + 1 ∧ h' - lo' < h' + 1 - lo ∧ Bp.Gr ws L (ordF ws) lo' h' bs' ∧ G = gB ws L lo' (h' : Int) bs') (sg_if (b := decide (lo < h') && decide (Bp.wt ws (ordF ws)[lo] + Bp.wt ws (ordF ws)[h'] ≤ L)) ?_ (fun t => ?_) (fun t => ?_)) ?_
        · refine et_and ((et_T (ed_IB (ed_var rfl) (ed_var rfl))).is (decide_eq_decide.mpr Int.ofNat_lt)) fun _ => ?_
          exact et_T (ed_IB (ed_II (ed_ixI (ed_var rfl) (ixl rfl (ed_var rfl)) (Bp.atI_wt rl.1 rl.2)) (ed_ixI (ed_var rfl) (ixh rfl (ed_var rfl)) (Bp.atI_wt rh.1 rh.2))) (ed_var rfl))
        · rw [Bool.and_eq_true, decide_eq_true_eq, decide_eq_true_eq] at t
          have ne : (ordF ws)[lo] ≠ (ordF ws)[h'] := fun z => by
            have nd : (ordF ws).Nodup := O.perm.nodup_iff.mpr (Bp.rng_nodup _)
            have := (List.getElem_inj nd).mp z
            omega
          refine sq_app (d := itup [min (ordF ws)[lo] (ordF ws)[h'], max (ordF ws)[lo] (ordF ws)[h']]) rfl (ed_tup (ea_cons (ed_min2 (ixl rfl (ed_var rfl)) (ixh rfl (ed_var rfl))) (ea_cons (ed_max2 (ixl rfl (ed_var rfl)) (ixh rfl (ed_var rfl))) ea_nil)) (by show 2 ≤ 1000; decide)) (by rw [List.length_map]; exact bsl) ?_
          refine sg_set (d := .int ((lo + 1 : Nat) : Int)) ((ed_II (ed_var rfl) ed_int).is rfl) (fun x hx => by cases hx; show 3 ≠ 4; decide) ⟨lo + 1, bs ++ [[min (ordF ws)[lo] (ordF ws)[h'], max (ordF ws)[lo] (ordF ws)[h']]], by omega, by omega, gr.pair t.1 bl bh t.2 (by omega), ?_⟩
          unfold gB
          rw [List.map_append]
          rfl
        · refine sg_app (d := itup [(ordF ws)[h']]) rfl (ed_tup (ea_cons (ixh rfl (ed_var rfl)) ea_nil) (by show 1 ≤ 1000; decide)) (by rw [List.length_map]; exact bsl) ⟨lo, bs ++ [[(ordF ws)[h']]], by omega, by omega, gr.single (by omega) bh wh (fun z => ⟨_, bl, ?_⟩), ?_⟩
          · rw [decide_eq_true z, Bool.true_and, decide_eq_false_iff_not] at t
            omega
          · unfold gB
            rw [List.map_append]
            rfl
        · rintro G ⟨lo', bs', h1, h2, gr', rfl⟩
          exact sg_set (ed_II (ed_var rfl) ed_int) (fun x hx => by cases hx; show 3 ≠ 5; decide) ⟨h' - lo', h2, lo', h', bs', rfl, gr', rfl⟩
      · rw [decide_eq_false_iff_not] at e
        omega
    · rintro G ⟨lo, h, bs, hl, gr, rfl⟩
      refine sg_free rfl ?_
      exact sg_ret (ed_var rfl) ⟨bs, rfl, gr.good O hl, gr.mark O hl hp2 hp3⟩
end

section
variable {P : Program} {w : World} {K : PySem.W.Frag} {mg : Str → Option Value} {base : Heap}
/-- what is told, if nobody is too heavy -/
def toldB (ws : List Int) (L : Int) (ds : List D) (m : Int) : Prop := ∃ bs, ds = bs.map itup ∧ Bp.Good ws L bs ∧ Bp.okm L m ∧ Bp.bnd ws L m = (bs.length : Int) ∧ ∀ w ∈ ws, w ≤ L
def sp_told (T : Tab K mg) : Sp := spN (α := List Int × Int) (fun a => [il a.1, .int a.2]) (fun a => a.1.length ≤ 200 ∧ (∀ w ∈ a.1, 1 ≤ w) ∧ 0 ≤ a.2) (fun a d => ∃ p, d = .hvy T.c_Heavy (.int p) ∧ Bp.heavyF a.1 a.2 p = true)
  (fun a C ds m => C = T.c_Boats ∧ toldB a.1 a.2 ds m) (badTwo T)
theorem ed_bound' {Γ : Gm} {E : XK} {ta : TA} {ws : List Int} {L m : Int} (h : Ea K ta Γ [il ws, .int L, .int m]) (hz : ws.length ≤ 500) : Ed K (tCall sp_bound [] E ta) Γ (.int (Bp.bnd ws L m)) := (eg_call (ws, L, m) h hz).toEd
theorem ed_marks {Γ : Gm} {E : XK} {ta : TA} {ws : List Int} {L : Int} (h : Ea K ta Γ [il ws, .int L]) (hz : ws.length ≤ 200) : Ed K (tCall sp_marks [] E ta) Γ (il (marksF ws L)) := (eg_call (ws, L) h hz).toEd
theorem enD_at {ws : List Int} {i : Nat} {d : D} (h : (enD (ws.map D.int))[i]? = some d) : ∃ w, ws[i]? = some w ∧ d = .tup [.int (i : Int), .int w] := by
  unfold enD at h
  rw [List.getElem?_mapIdx, List.getElem?_map, Option.map_map] at h
  obtain ⟨w, hw, rfl⟩ := Option.map_eq_some_iff.mp h
  exact ⟨w, hw, rfl⟩
theorem enD_len (ws : List Int) : (enD (ws.map D.int)).length = ws.length := by
  unfold enD
  rw [List.length_mapIdx, List.length_map]
theorem take_le {L : Int} {ws : List Int} {i : Nat} {w : Int} (h : ws[i]? = some w) (h1 : ∀ v ∈ ws.take i, v ≤ L) (h2 : w ≤ L) : ∀ v ∈ ws.take (i + 1), v ≤ L := fun v hv => by
  rw [List.take_add_one, h, List.mem_append] at hv
  rcases hv with hv | hv
  · exact h1 v hv
  · rw [show v = w by simpa using hv]
    exact h2
theorem take_ne {P : Int → Prop} {ws : List Int} {i : Nat} {w : Int} (h : ws[i]? = some w) (h1 : ∀ v ∈ ws.take i, P v) (h2 : P w) : ∀ v ∈ ws.take (i + 1), P v := fun v hv => by
  rw [List.take_add_one, h, List.mem_append] at hv
  rcases hv with hv | hv
  · exact h1 v hv
  · rw [show v = w by simpa using hv]
    exact h2
theorem ok_told (T : Tab K mg) : FnOk P w K mg base (L2.CX P w) 4 T.f_told T.d_told ["weights", "limit"] (sp_told T) := by
  refine T.F_told.okX sc_told (fun vs H Q E h => ?_) (fun cdv A outer s H vs Q E hr h => ?_)
  · rcases h with ⟨a, S, _, da, _⟩ | ⟨ds, S, C, _, da, hb, _⟩
    · exact da.len
    · exact da.len.trans (by obtain ⟨d, e, rfl⟩ := badTwo_two hb; rfl)
  · refine ⟨_, (pss_cons (ps_expr (pe_call (ok_asked_two T) (hr.mono (by decide)) (by rfl) T.g_asked_two T.F_asked_two.kp T.b_asked_two .nil (passes_call (takes_of rfl rfl rfl rfl) (fun _ _ _ _ h => h)) (pa_cons (pv 0) (pa_cons (pv 1) pa_nil))))
      (pss_cons (ps_for (passes_of rfl) rfl (pi_enum (by rfl) T.z_enumerate (pa_cons (pv 0) pa_nil)) (pg_tup rfl (pgs_cons (pg_name (i := 2) sc_told.nd rfl (by first | exact Or.inl rfl | exact Or.inr rfl)) (pgs_cons (pg_name (i := 3) sc_told.nd rfl (by first | exact Or.inl rfl | exact Or.inr rfl)) pgs_nil)))
        (pss_one (ps_if (pt_cmpR op_gt (pv 3) (pv 1) (nomark _)) (pss_one (ps_ret (pe_make T.k_Heavy (ok_Heavyinit T) (hr.mono (by decide)) (by rfl) T.g_Heavy T.b_Heavyinit .nil pass0 (pa_cons (pv 2) pa_nil)))) pss_nil)))
      (pss_cons (ps_set (i := 4) sc_told.nd rfl (by first | exact Or.inl rfl | exact Or.inr rfl) (pe_call (ok_boats_of T) (hr.mono (by decide)) (by rfl) T.g_boats_of T.F_boats_of.kp T.b_boats_of .nil pass0 (pa_cons (pv 0) (pa_cons (pv 1) pa_nil))))
      (pss_cons (ps_for (passes_of rfl) rfl (pi_list (pe_call (ok_marks T) (hr.mono (by decide)) (by rfl) T.g_marks T.F_marks.kp T.b_marks .nil pass0 (pa_cons (pv 0) (pa_cons (pv 1) pa_nil)))) (pg_name (i := 5) sc_told.nd rfl (by first | exact Or.inl rfl | exact Or.inr rfl))
        (pss_one (ps_if (pt_cmpR op_eq (pe_call (ok_bound T) (hr.mono (by decide)) (by rfl) T.g_bound T.F_bound.kp T.b_bound .nil pass0 (pa_cons (pv 0) (pa_cons (pv 1) (pa_cons (pv 5) pa_nil)))) (pe_callB (crLen (K := K)) (by rfl) T.z_len (by decide +kernel) (pa_cons (pv 4) pa_nil)) (nomark _)) (pss_one (ps_ret (pe_make T.k_Boats (ok_Boatsinit T) (hr.mono (by decide)) (by rfl) T.g_Boats T.b_Boatsinit .nil pass0 (pa_cons (pv 4) (pa_cons (pv 5) pa_nil))))) pss_nil)))
      (pss_one (ps_ret (pe_make T.k_Boats (ok_Boatsinit T) (hr.mono (by decide)) (by rfl) T.g_Boats T.b_Boatsinit .nil pass0 (pa_cons (pv 4) (pa_cons pe_int pa_nil))))))))), ?_⟩
    try simp only [kN, kC]
    rcases h with ⟨⟨ws, L⟩, S, inn, da, hp, q, qn⟩ | ⟨ds, S, C, inn, da, hb, x⟩
    · refine run_def (K := K) (E := E) (R := ⟨fun d => ∃ p, d = .hvy T.c_Heavy (.int p) ∧ Bp.heavyF ws L p = true, fun C ds m => C = T.c_Boats ∧ toldB ws L ds m⟩) (Xc := fun _ => False) inn da ?_ q (fun _ _ z => z.elim) qn
      obtain ⟨hp1, hp2, hp3⟩ : ws.length ≤ 200 ∧ (∀ w ∈ ws, 1 ≤ w) ∧ 0 ≤ L := hp
      refine sg_seq (N1 := fun G => G = ini 6 [il ws, .int L]) (sg_callX (ds := [il ws, .int L]) (ea_cons (ed_var rfl) (ea_cons (ed_var rfl) ea_nil)) (.inl ⟨(ws, L), rfl, ⟨⟨(by show ws.length ≤ 500; omega), hp2⟩, hp3⟩, rfl⟩)) fun G e => ?_
      subst e
      refine sg_seq (N1 := fun G => (∀ w ∈ ws, w ≤ L) ∧ ∃ x y, G = ⟨[some (.v (il ws)), some (.v (.int L)), x, y, none, none], none⟩) (sg_for (si_enum (ds := ws.map D.int) (ed_var rfl)) (fun i G => (∀ w ∈ ws.take i, w ≤ L) ∧ ∃ x y, G = ⟨[some (.v (il ws)), some (.v (.int L)), x, y, none, none], none⟩) ⟨(by rw [List.take_zero]; intro w hw; cases hw), none, none, rfl⟩ ?_ ?_) ?_
      · rintro i d G hd ⟨hle, x, y, rfl⟩
        obtain ⟨w, hw, rfl⟩ := enD_at hd
        have hi : i < ws.length := (List.getElem?_eq_some_iff.mp hw).1
        refine ⟨_, _, tg_pair nw, ?_⟩
        refine sg_if (b := decide (L < w)) (et_T (ed_IB (ed_var rfl) (ed_var rfl))) (fun h => ?_) (fun h => ?_)
        · rw [decide_eq_true_eq] at h
          refine sg_ret (ed_makeH (ea_cons (ed_var rfl) ea_nil)) ⟨(i : Int), rfl, ?_⟩
          unfold Bp.heavyF
          rw [Bp.wt_at hi, (List.getElem?_eq_some_iff.mp hw).2, decide_eq_true h, decide_eq_true (show (0 : Int) ≤ (i : Int) by omega), decide_eq_true (show (i : Int) < (ws.length : Int) by omega)]
          rfl
        · rw [decide_eq_false_iff_not] at h
          exact sg_next ⟨take_le hw hle (by omega), some (.v (.int (i : Int))), some (.v (.int w)), rfl⟩
      · rintro G ⟨hle, x, y, rfl⟩
        rw [enD_len, List.take_length] at hle
        exact ⟨hle, x, y, rfl⟩
      rintro G ⟨hle, x, y, rfl⟩
      refine sq_setG (eg_call (ws, L) (ea_cons (ed_var rfl) (ea_cons (ed_var rfl) ea_nil)) ⟨hp1, hp3, fun w h => ⟨hp2 w h, hle w h⟩⟩) nw ?_
      rintro d ⟨bs, rfl, good, m0, hm0, hm1, hm2⟩
      have min : m0 ∈ marksF ws L := mem_marks.mpr ⟨hm1.imp id fun ⟨w, hw, e⟩ => ⟨w, hw, .inr e⟩, hm0⟩
      refine sg_seq (N1 := fun _ => False) (sg_for (si_listI (ns := marksF ws L) (ed_marks (ea_cons (ed_var rfl) (ea_cons (ed_var rfl) ea_nil)) hp1)) (fun i G => (∀ m ∈ (marksF ws L).take i, Bp.bnd ws L m ≠ (bs.length : Int)) ∧ ∃ z, G = ⟨[some (.v (il ws)), some (.v (.int L)), x, y, some (.v (btl bs)), z], none⟩) ⟨(by rw [List.take_zero]; intro w hw; cases hw), none, rfl⟩ ?_ ?_) fun _ z => z.elim
      · rintro i d G hd ⟨hne, z, rfl⟩
        rw [List.getElem?_map] at hd
        obtain ⟨m, hm, rfl⟩ := Option.map_eq_some_iff.mp hd
        refine ⟨_, _, tg_name nw, ?_⟩
        refine sg_if (b := decide (Bp.bnd ws L m = (bs.length : Int))) (et_T (ed_eqi (ed_bound' (ea_cons (ed_var rfl) (ea_cons (ed_var rfl) (ea_cons (ed_var rfl) ea_nil))) (by omega)) (ed_lenB (ed_var rfl)))) (fun h => ?_) (fun h => ?_)
        · rw [decide_eq_true_eq] at h
          exact sg_retNew (ds := bs.map itup) (ea_cons (ed_var rfl) (ea_cons (ed_var rfl) ea_nil)) ⟨rfl, bs, rfl, good, (mem_marks.mp (List.mem_of_getElem? hm)).2, h, hle⟩
        · rw [decide_eq_false_iff_not] at h
          exact sg_next ⟨take_ne hm hne h, some (.v (.int m)), rfl⟩
      · rintro G ⟨hne, z, rfl⟩
        rw [List.length_map, List.take_length] at hne
        exact (hne m0 min hm2).elim
    · obtain ⟨d, e, rfl⟩ := badTwo_two hb
      refine run_defP (K := K) (E := E) (Q := Q) (R := fun _ => False) (Xc := fun C' => C' = C) inn da ?_ (fun _ _ _ z => z.elim) (fun C' H' e z => by rw [show C' = C from e]; exact x H' z)
      refine sg_seq (N1 := fun _ => False) (sg_callX (ds := [d, e]) (ea_cons (ed_var rfl) (ea_cons (ed_var rfl) ea_nil)) (.inr ⟨C, hb, rfl⟩)) fun G e => e.elim
end

section
variable {P : Program} {w : World} {K : PySem.W.Frag} {mg : Str → Option Value} {base : Heap}
/-- people and boats that are refused, and by which class -/
def badLeast (T : Tab K mg) (ds : List D) (C : Addr) : Prop := (∃ d e, ds = [d, e] ∧ badP d ∧ C = T.c_BadPeople) ∨ ∃ ws e, ds = [il ws, e] ∧ okW ws ∧ okD e ∧ (∀ b, e = .int b → 0 ≤ b → 2 * b < (ws.length : Int)) ∧ C = T.c_BadBoats
theorem badLeast_two {T : Tab K mg} {ds : List D} {C : Addr} (h : badLeast T ds C) : ∃ d e, ds = [d, e] := by
  rcases h with ⟨d, e, rfl, _⟩ | ⟨ws, e, rfl, _⟩
  · exact ⟨_, _, rfl⟩
  · exact ⟨_, _, rfl⟩
def sp_least_limit (T : Tab K mg) : Sp := spX (α := List Int × Int) (fun a => [il a.1, .int a.2]) (fun a => okW a.1 ∧ (a.1.length : Int) ≤ 2 * a.2) (fun a r => r = .int (Bp.lstF a.1 a.2)) (badLeast T)
theorem take_cut {o : List Int} {k : Nat} (h : 2 * k ≤ o.length) : cutG o none (some (2 * (k : Int))) = o.take (2 * k) := by
  unfold cutG
  rw [show (2 * (k : Int)) = ((2 * k : Nat) : Int) by omega, HT.sIx_nat, Nat.min_eq_left h]
  show (o.drop 0).take (2 * k - 0) = _
  rw [List.drop_zero, Nat.sub_zero]
theorem ok_least_limit (T : Tab K mg) : FnOk P w K mg base (L2.CX P w) 3 T.f_least_limit T.d_least_limit ["weights", "boats"] (sp_least_limit T) := by
  refine T.F_least_limit.okX sc_least_limit (fun vs H Q E h => ?_) (fun cdv A outer s H vs Q E hr h => ?_)
  · rcases h with ⟨a, S, _, da, _⟩ | ⟨ds, S, C, _, da, hb, _⟩
    · exact da.len
    · exact da.len.trans (by obtain ⟨d, e, rfl⟩ := badLeast_two hb; rfl)
  · refine ⟨_, (pss_cons (ps_expr (pe_call (ok_asked_people T) (hr.mono (by decide)) (by rfl) T.g_asked_people T.F_asked_people.kp T.b_asked_people .nil (passes_call (takes_of rfl rfl rfl rfl) (fun _ _ _ _ h => h)) (pa_cons (pv 0) pa_nil)))
      (pss_cons (ps_if (PW.pt (pw_or (pt_not (pt_val (pe_call (ok_is_number T) (hr.mono (by decide)) (by rfl) T.g_is_number T.F_is_number.kp T.b_is_number .nil pass0 (pa_cons (pv 1) pa_nil)))) (pw_or1 (pt_cmpR op_lt (pe_op op_mul pe_int (pv 1)) (pe_callB (crLen (K := K)) (by rfl) T.z_len (by decide +kernel) (pa_cons (pv 0) pa_nil)) (nomark _))))) (pss_one (ps_raise rfl (takes_of rfl rfl rfl rfl) (pmk_own PySem.F.excBase_ValueError T.x_BadBoats T.g_BadBoats T.k_BadBoats (raises_own T.r_BadBoats T.t_BadBoats) (by rfl)))) pss_nil)
      (pss_cons (ps_set (i := 2) sc_least_limit.nd rfl (by first | exact Or.inl rfl | exact Or.inr rfl) (pe_callB cr_sortedI (by rfl) T.z_sorted (by decide +kernel) (pa_cons (pv 0) pa_nil)))
      (pss_cons (ps_set (i := 3) sc_least_limit.nd rfl (by first | exact Or.inl rfl | exact Or.inr rfl) (pe_slice (slL (K := K)) (pv 2) po_none (po_some (pe_op op_mul pe_int (pe_callB (cr_max2 rfl) (by rfl) T.z_max (by decide +kernel) (pa_cons pe_int (pa_cons (pe_op op_sub (pe_callB (crLen (K := K)) (by rfl) T.z_len (by decide +kernel) (pa_cons (pv 2) pa_nil)) (pv 1)) pa_nil)))))))
      (pss_cons (ps_setLc (i := 4) (own := [("at", 5)]) (g := gName 5) (by rfl) sc_least_limit.nd rfl rfl (sw_true rfl rfl rfl (by decide +kernel)) (pi_range1 (by rfl) T.z_range (pa_cons (pe_op op_fdiv (pe_callB (crLen (K := K)) (by rfl) T.z_len (by decide +kernel) (pa_cons (pv 3) pa_nil)) pe_int) pa_nil)) (blkOk_by (own := [("at", 5)]) (N := ["weights", "boats", "order", "rest", "pairs", "at"]) (sc := defScope s_least_limit) (by decide +kernel)) (fun _ _ _ _ _ => (pg_name (i := 5) sc_least_limit.nd rfl (by first | exact Or.inl rfl | exact Or.inr rfl))) (fun _ _ _ _ _ => (pts_nil)) (fun _ _ _ _ _ => (pe_op op_add (pe_ix (ixL (K := K)) (pv 3) (pv 5) (fun _ _ => rfl)) (pe_ix (ixL (K := K)) (pv 3) (pe_op op_sub (pe_op op_sub (pe_callB (crLen (K := K)) (by rfl) T.z_len (by decide +kernel) (pa_cons (pv 3) pa_nil)) pe_int) (pv 5)) (fun _ _ => rfl)))))
      (pss_one (ps_ret (pe_callBK (cr_maxD rfl) (by rfl) T.z_max (by decide +kernel) (pa_cons (pe_op op_cat (pe_slice (slL (K := K)) (pv 2) (po_some (pe_un un_neg pe_int)) po_none) (pv 4)) pa_nil) (pk_cons pe_int pk_nil))))))))), ?_⟩
    try simp only [kN, kC]
    rcases h with ⟨⟨ws, b⟩, S, inn, da, hp, q⟩ | ⟨ds, S, C, inn, da, hb, x⟩
    · refine run_defP (K := K) (E := E) (Xc := fun _ => False) inn da ?_ q (fun _ _ z => z.elim)
      obtain ⟨h1, h2⟩ := hp
      replace h2 : (ws.length : Int) ≤ 2 * b := h2
      have hz : ws.length ≤ 500 := h1.1
      refine sg_seq (N1 := fun G => G = ini 6 [il ws, .int b]) (sg_callX (ds := [il ws]) (ea_cons (ed_var rfl) ea_nil) (.inl ⟨ws, rfl, h1, rfl⟩)) fun G e => ?_
      subst e
      refine sq_when (b := false) ((et_or (et_not (et_B (ed_is_number (d := .int b) (ea_cons (ed_var rfl) ea_nil) ⟨"int", rfl⟩))) fun _ => et_T (ed_IB (ed_IC ed_int (ed_var rfl) (.inl ⟨by decide, by decide⟩)) (ed_lenI (ed_var rfl)))).is ?_) (fun z => nomatch z) (fun _ => ?_)
      · show (!decide (0 ≤ b) || decide (2 * b < (ws.length : Int))) = false
        rw [decide_eq_true (show 0 ≤ b by omega), decide_eq_false (show ¬ 2 * b < (ws.length : Int) by omega)]
        rfl
      have kl := Bp.lstK_le h2
      have sl : (srt ws).length = ws.length := (srt_perm ws).length_eq
      have hk : max 0 (((srt ws).length : Int) - b) = (Bp.lstK ws b : Int) := by
        unfold Bp.lstK
        omega
      refine sq_set (En.toI (en_sorted (ed_var rfl))) nw ?_
      refine sq_set (d := il ((srt ws).take (2 * Bp.lstK ws b))) (En.toI ((en_slI (ed_var rfl) eo_none (eo_some (ed_IC ed_int ((ed_max2 ed_int (ed_II (ed_lenI (ed_var rfl)) (ed_var rfl))).is (congrArg D.int hk)) (.inl ⟨by decide, by decide⟩)))).is (by rw [take_cut (by omega)]))) nw ?_
      have tl : ((srt ws).take (2 * Bp.lstK ws b)).length = 2 * Bp.lstK ws b := by
        rw [List.length_take]
        omega
      refine sq_set (d := il ((List.range (Bp.lstK ws b)).map fun i => (srt ws).getD i 0 + (srt ws).getD (2 * Bp.lstK ws b - 1 - i) 0)) (En.toI ((en_lcAy (xs := List.range (Bp.lstK ws b)) (emb := fun (i : Nat) => D.int (0 + (i : Int))) (e := fun i => .int ((srt ws).getD i 0 + (srt ws).getD (2 * Bp.lstK ws b - 1 - i) 0)) ?_ (by rw [List.length_range]; omega) nw fun i hi => ?_).is (by rw [List.map_map]; rfl))) nw ?_
      · have e : (Bp.lstK ws b) = (((((srt ws).take (2 * Bp.lstK ws b)).length : Nat) : Int) / 2).toNat := by
          rw [tl]
          omega
        have r := si_range1 (K := K) (Γ := ⟨[some (.v (il ws)), some (.v (.int b)), some (.v (il (srt ws))), some (.v (il ((srt ws).take (2 * Bp.lstK ws b)))), none, none], none⟩) (ed_IC (ed_lenI (ed_var (i := 3) rfl)) ed_int (C := CDiv) (f := fun i j => i / j) (j := 2) ⟨by decide, by decide⟩) (by rw [tl]; omega) (by rw [tl]; omega)
        rw [← e] at r
        exact r
      · rw [List.mem_range] at hi
        have l1 : i < (srt ws).length := by omega
        have l2 : 2 * Bp.lstK ws b - 1 - i < (srt ws).length := by omega
        refine ed_II (ed_ixI (ed_var rfl) (ed_var rfl) ?_) (ed_ixI (ed_var rfl) (ed_II (ed_II (ed_lenI (ed_var rfl)) ed_int) (ed_var rfl)) ?_)
        · rw [Int.zero_add]
          refine atI_nat ?_
          rw [List.getElem?_take_of_lt (by omega), List.getD_eq_getElem?_getD, List.getElem?_eq_getElem l1]
          rfl
        · rw [tl, show ((2 * Bp.lstK ws b : Nat) : Int) - 1 - (0 + (i : Int)) = ((2 * Bp.lstK ws b - 1 - i : Nat) : Int) by omega]
          refine atI_nat ?_
          rw [List.getElem?_take_of_lt (by omega), List.getD_eq_getElem?_getD, List.getElem?_eq_getElem l2]
          rfl
      refine sg_ret (d := .int (Bp.lstF ws b)) (ed_maxD (ns := Bp.lstL (srt ws) (Bp.lstK ws b)) (d := 0) (En.toI (en_catI (En.toI (en_slI (ed_var rfl) (eo_some (ed_neg ed_int)) eo_none)) (ed_var rfl) ?_)) ed_int ?_) rfl
      · have := cutG_len (srt ws) (some (-1)) none
        rw [List.length_map, List.length_range]
        omega
      · exact Bp.mxD_is _
    · rcases hb with ⟨d, e, rfl, hd, rfl⟩ | ⟨ws, e, rfl, hw, ht, hn, rfl⟩
      · refine run_defP (K := K) (E := E) (Q := Q) (R := fun _ => False) (Xc := fun C => C = T.c_BadPeople) inn da ?_ (fun _ _ _ z => z.elim) (fun C H' e z => by rw [show C = T.c_BadPeople from e]; exact x H' z)
        refine sg_seq (N1 := fun _ => False) (sg_callX (ds := [d]) (ea_cons (ed_var rfl) ea_nil) (.inr ⟨T.c_BadPeople, ⟨d, rfl, hd, rfl⟩, rfl⟩)) fun G e => e.elim
      · refine run_defP (K := K) (E := E) (Q := Q) (R := fun _ => False) (Xc := fun C => C = T.c_BadBoats) inn da ?_ (fun _ _ _ z => z.elim) (fun C H' e z => by rw [show C = T.c_BadBoats from e]; exact x H' z)
        refine sg_seq (N1 := fun G => G = ini 6 [il ws, e]) (sg_callX (ds := [il ws]) (ea_cons (ed_var rfl) ea_nil) (.inl ⟨ws, rfl, hw, rfl⟩)) fun G e => ?_
        subst e
        by_cases nd : numD e = true
        · obtain ⟨b, rfl, b0⟩ : ∃ b, e = .int b ∧ 0 ≤ b := by
            cases e with
            | int b => exact ⟨b, rfl, of_decide_eq_true nd⟩
            | _ => cases nd
          have hlt := hn b rfl b0
          refine sq_when (b := true) ((et_or (et_not (et_B (ed_is_number (d := .int b) (ea_cons (ed_var rfl) ea_nil) ht))) fun _ => et_T (ed_IB (ed_IC ed_int (ed_var rfl) (.inl ⟨by decide, by decide⟩)) (ed_lenI (ed_var rfl)))).is ?_) (fun _ => sg_raise rfl) (fun z => nomatch z)
          rw [nd]
          show (false || decide (2 * b < (ws.length : Int))) = true
          rw [decide_eq_true hlt]
          rfl
        · refine sq_when (b := true) ((et_or (b := false) (et_not (et_B (ed_is_number (d := e) (ea_cons (ed_var rfl) ea_nil) ht))) fun z => ?_).is ?_) (fun _ => sg_raise rfl) (fun z => nomatch z)
          · rw [Bool.not_eq_true] at nd
            rw [nd] at z
            cases z
          · rw [Bool.not_eq_true] at nd
            rw [nd]
            rfl
end

section
variable {P : Program} {w : World} {K : PySem.W.Frag} {mg : Str → Option Value} {base : Heap}
def sp__law_people : Sp := spG (α := List Int) (fun a => [il a]) (fun a => a.length ≤ 63) (fun a r => ∃ ws, r = il ws ∧ ws.length = a.length ∧ ∀ w ∈ ws, 1 ≤ w)
theorem ok__law_people (T : Tab K mg) : FnOk P w K mg base CX0 1 T.f__law_people T.d__law_people ["_law_script"] (sp__law_people) := by
  refine T.F__law_people.ok sc__law_people (fun vs H Q E h => ?_) (fun cdv A outer s H vs Q E hr h => ?_)
  · obtain ⟨a, S, _, da, _⟩ := h
    exact da.len
  · obtain ⟨ns, S, inn, da, hp, q⟩ := h
    refine ⟨_, (pss_cons (ps_set (i := 1) sc__law_people.nd rfl (by first | exact Or.inl rfl | exact Or.inr rfl) (pe_callB (cr_sum rfl) (by rfl) T.z_sum (by decide +kernel) (pa_cons (pv 0) pa_nil)))
      (pss_cons (ps_set (i := 2) sc__law_people.nd rfl (by first | exact Or.inl rfl | exact Or.inr rfl) (pe_ix (ixT (K := K)) (pe_tup (pa_cons pe_int (pa_cons pe_int (pa_cons (pe_op op_pow pe_int pe_int) (pa_cons pe_int pa_nil))))) (pe_op op_mod (pe_op op_fdiv (pv 1) pe_int) pe_int) (fun _ _ => rfl)))
      (pss_cons (ps_set (i := 3) sc__law_people.nd rfl (by first | exact Or.inl rfl | exact Or.inr rfl) (pe_ix (ixT (K := K)) (pe_tup (pa_cons pe_int (pa_cons pe_int (pa_cons pe_int (pa_cons pe_int pa_nil))))) (pe_op op_mod (pe_op op_fdiv (pv 1) pe_int) pe_int) (fun _ _ => rfl)))
      (pss_one (ps_ret (pe_lc (own := [("_law_cell", 4)]) (g := gName 4) (by rfl) sc__law_people.nd (pi_list (pv 0)) (blkOk_by (own := [("_law_cell", 4)]) (N := ["_law_script", "_law_mixed", "_law_most", "_law_least", "_law_cell"]) (sc := defScope s__law_people) (by decide +kernel)) (fun _ _ _ _ _ => (pg_name (i := 4) sc__law_people.nd rfl (by first | exact Or.inl rfl | exact Or.inr rfl))) (fun _ _ _ _ _ => (pts_nil)) (fun _ _ _ _ _ => (pe_op op_add (pv 3) (pe_op op_mod (pv 4) (pv 2)))))))))), run_defP (K := K) (E := E) (Xc := fun _ => False) inn da ?_ q (fun _ _ z => z.elim)⟩
    try simp only [kN, kC]
    replace hp : ns.length ≤ 63 := hp
    refine sq_set (ed_sum (ed_var rfl)) nw ?_
    obtain ⟨mo, hm1, hm2⟩ := atI_in (xs := ([9, 60, 10 ^ 30, 4] : List Int)) (i := ns.sum / 7 % 4) (by show -4 ≤ _; omega) (by show _ < (4 : Int); omega)
    obtain ⟨le, hl1, hl2⟩ := atI_in (xs := ([1, 1, 1, 10] : List Int)) (i := ns.sum / 28 % 4) (by show -4 ≤ _; omega) (by show _ < (4 : Int); omega)
    have mo0 : 0 < mo := by
      simp at hm2
      omega
    have le0 : 1 ≤ le := by
      simp at hl2
      omega
    refine sq_set (ed_ixIT (ns := [9, 60, 10 ^ 30, 4]) (ed_tup (ea_cons ed_int (ea_cons ed_int (ea_cons (ed_IC ed_int ed_int ⟨by decide, by decide, by decide⟩) (ea_cons ed_int ea_nil)))) (by show 4 ≤ 1000; decide)) (ed_IC (ed_IC (ed_var rfl) ed_int ⟨by decide, by decide⟩) ed_int (by decide)) hm1) nw ?_
    refine sq_set (ed_ixIT (ns := [1, 1, 1, 10]) (ed_tup (ea_cons ed_int (ea_cons ed_int (ea_cons ed_int (ea_cons ed_int ea_nil)))) (by show 4 ≤ 1000; decide)) (ed_IC (ed_IC (ed_var rfl) ed_int ⟨by decide, by decide⟩) ed_int (by decide)) hl1) nw ?_
    refine sg_ret (d := il (ns.map fun c => le + c % mo)) ?_ ⟨_, rfl, by rw [List.length_map], fun w hw => ?_⟩
    · refine En.toI ((en_lcIy (ns := ns) (e := fun c => .int (le + c % mo)) (si_listI (ed_var rfl)) (by omega) nw fun n hn => ?_).is (by rw [List.map_map]; rfl))
      exact ed_II (ed_var rfl) (ed_IC (ed_var rfl) (ed_var rfl) mo0)
    · obtain ⟨c, hc, rfl⟩ := List.mem_map.mp hw
      have := Int.emod_nonneg c (show mo ≠ 0 by omega)
      omega
end

section
variable {P : Program} {w : World} {K : PySem.W.Frag} {mg : Str → Option Value} {base : Heap}
def p0 (xs : List Int) (i : Int) : Int := (atI xs i).getD 0
theorem p0_of {xs : List Int} {i v : Int} (h : atI xs i = some v) : p0 xs i = v := by
  unfold p0
  rw [h]
  rfl
/-- the law's limit -/
def limF (ns ws : List Int) : Int := if ws = [] then ns.sum % 9 else
  p0 [p0 (srt ws) (-1) + ns.sum / 11 % 4, max (p0 (srt ws) (-1)) (2 * p0 (srt ws) ((ws.length : Int) / 2) - 1 + ns.sum / 11 % 3), max (p0 (srt ws) (-1)) (p0 ws (ns.sum / 3 % (ws.length : Int)) + p0 ws (ns.sum / 5 % (ws.length : Int))), p0 ws (ns.sum / 3 % (ws.length : Int)) + p0 ws (ns.sum / 5 % (ws.length : Int))] (ns.sum % 4)
theorem limF_nn {ns ws : List Int} (hp2 : ∀ w ∈ ws, 1 ≤ w) : 0 ≤ limF ns ws := by
  unfold limF
  by_cases h : ws = []
  · rw [if_pos h]
    omega
  rw [if_neg h]
  have hl : 0 < ws.length := List.length_pos_iff.mpr h
  have sl : (srt ws).length = ws.length := (srt_perm ws).length_eq
  have smem : ∀ x ∈ srt ws, 1 ≤ x := fun x hx => hp2 x ((srt_perm ws).mem_iff.mp hx)
  have e3 := Int.emod_lt_of_pos (ns.sum / 3) (show (0 : Int) < (ws.length : Int) by omega)
  have f3 := Int.emod_nonneg (ns.sum / 3) (show (ws.length : Int) ≠ 0 by omega)
  have e5 := Int.emod_lt_of_pos (ns.sum / 5) (show (0 : Int) < (ws.length : Int) by omega)
  have f5 := Int.emod_nonneg (ns.sum / 5) (show (ws.length : Int) ≠ 0 by omega)
  obtain ⟨hh, h1, h2⟩ := atI_in (xs := srt ws) (i := -1) (by omega) (by omega)
  obtain ⟨aa, a1, a2⟩ := atI_in (xs := ws) (i := ns.sum / 3 % (ws.length : Int)) (by omega) (by omega)
  obtain ⟨bb, b1, b2⟩ := atI_in (xs := ws) (i := ns.sum / 5 % (ws.length : Int)) (by omega) (by omega)
  rw [p0_of h1, p0_of a1, p0_of b1]
  have h3 := smem _ h2
  have a3 := hp2 _ a2
  have b3 := hp2 _ b2
  generalize p0 (srt ws) ((ws.length : Int) / 2) = mm
  obtain ⟨rr, r1, r2⟩ := atI_in (xs := [hh + ns.sum / 11 % 4, max hh (2 * mm - 1 + ns.sum / 11 % 3), max hh (aa + bb), aa + bb]) (i := ns.sum % 4) (by show -4 ≤ _; omega) (by show _ < (4 : Int); omega)
  rw [p0_of r1]
  simp only [List.mem_cons, List.not_mem_nil, or_false] at r2
  omega
def sp__law_limit : Sp := spG (α := List Int × List Int) (fun a => [il a.1, il a.2]) (fun a => a.2.length ≤ 63 ∧ ∀ w ∈ a.2, 1 ≤ w) (fun a r => r = .int (limF a.1 a.2))
theorem ok__law_limit (T : Tab K mg) : FnOk P w K mg base CX0 1 T.f__law_limit T.d__law_limit ["_law_script", "_law_weights"] (sp__law_limit) := by
  refine T.F__law_limit.ok sc__law_limit (fun vs H Q E h => ?_) (fun cdv A outer s H vs Q E hr h => ?_)
  · obtain ⟨a, S, _, da, _⟩ := h
    exact da.len
  · obtain ⟨⟨ns, ws⟩, S, inn, da, hp, q⟩ := h
    refine ⟨_, (pss_cons (ps_set (i := 2) sc__law_limit.nd rfl (by first | exact Or.inl rfl | exact Or.inr rfl) (pe_callB (cr_sum rfl) (by rfl) T.z_sum (by decide +kernel) (pa_cons (pv 0) pa_nil)))
      (pss_cons (ps_if (pt_cmpR (op_eqD hr.units) (pv 1) (pe_lst pa_nil) (nomark _)) (pss_one (ps_ret (pe_op op_mod (pv 2) pe_int))) pss_nil)
      (pss_cons (ps_set (i := 3) sc__law_limit.nd rfl (by first | exact Or.inl rfl | exact Or.inr rfl) (pe_callB cr_sortedI (by rfl) T.z_sorted (by decide +kernel) (pa_cons (pv 1) pa_nil)))
      (pss_cons (ps_set (i := 4) sc__law_limit.nd rfl (by first | exact Or.inl rfl | exact Or.inr rfl) (pe_ix (ixL (K := K)) (pv 3) (pe_un un_neg pe_int) (fun _ _ => rfl)))
      (pss_cons (ps_set (i := 5) sc__law_limit.nd rfl (by first | exact Or.inl rfl | exact Or.inr rfl) (pe_ix (ixL (K := K)) (pv 3) (pe_op op_fdiv (pe_callB (crLen (K := K)) (by rfl) T.z_len (by decide +kernel) (pa_cons (pv 3) pa_nil)) pe_int) (fun _ _ => rfl)))
      (pss_cons (ps_set (i := 6) sc__law_limit.nd rfl (by first | exact Or.inl rfl | exact Or.inr rfl) (pe_op op_add (pe_ix (ixL (K := K)) (pv 1) (pe_op op_mod (pe_op op_fdiv (pv 2) pe_int) (pe_callB (crLen (K := K)) (by rfl) T.z_len (by decide +kernel) (pa_cons (pv 1) pa_nil))) (fun _ _ => rfl)) (pe_ix (ixL (K := K)) (pv 1) (pe_op op_mod (pe_op op_fdiv (pv 2) pe_int) (pe_callB (crLen (K := K)) (by rfl) T.z_len (by decide +kernel) (pa_cons (pv 1) pa_nil))) (fun _ _ => rfl))))
      (pss_cons (ps_set (i := 7) sc__law_limit.nd rfl (by first | exact Or.inl rfl | exact Or.inr rfl) (pe_callB (cr_max2 rfl) (by rfl) T.z_max (by decide +kernel) (pa_cons (pv 4) (pa_cons (pe_op op_add (pe_op op_sub (pe_op op_mul pe_int (pv 5)) pe_int) (pe_op op_mod (pe_op op_fdiv (pv 2) pe_int) pe_int)) pa_nil))))
      (pss_one (ps_ret (pe_ix (ixT (K := K)) (pe_tup (pa_cons (pe_op op_add (pv 4) (pe_op op_mod (pe_op op_fdiv (pv 2) pe_int) pe_int)) (pa_cons (pv 7) (pa_cons (pe_callB (cr_max2 rfl) (by rfl) T.z_max (by decide +kernel) (pa_cons (pv 4) (pa_cons (pv 6) pa_nil))) (pa_cons (pv 6) pa_nil))))) (pe_op op_mod (pv 2) pe_int) (fun _ _ => rfl))))))))))), run_defP (K := K) (E := E) (Xc := fun _ => False) inn da ?_ q (fun _ _ z => z.elim)⟩
    try simp only [kN, kC]
    obtain ⟨hp1, hp2⟩ : ws.length ≤ 63 ∧ ∀ w ∈ ws, 1 ≤ w := hp
    refine sq_set (ed_sum (ed_var rfl)) nw ?_
    refine sq_when (et_T (ed_eqI (ed_var rfl) (En.toI (ns := []) (en_lst ea_nil (by decide))))) (fun h => sg_ret (ed_IC (ed_var rfl) ed_int (by decide)) (congrArg D.int (if_pos (of_decide_eq_true h)).symm)) (fun h => ?_)
    rw [decide_eq_false_iff_not] at h
    have hl : 0 < ws.length := List.length_pos_iff.mpr h
    have sl : (srt ws).length = ws.length := (srt_perm ws).length_eq
    have smem : ∀ x ∈ srt ws, 1 ≤ x := fun x hx => hp2 x ((srt_perm ws).mem_iff.mp hx)
    have e3 := Int.emod_lt_of_pos (ns.sum / 3) (show (0 : Int) < (ws.length : Int) by omega)
    have f3 := Int.emod_nonneg (ns.sum / 3) (show (ws.length : Int) ≠ 0 by omega)
    have e5 := Int.emod_lt_of_pos (ns.sum / 5) (show (0 : Int) < (ws.length : Int) by omega)
    have f5 := Int.emod_nonneg (ns.sum / 5) (show (ws.length : Int) ≠ 0 by omega)
    obtain ⟨hh, h1, h2⟩ := atI_in (xs := srt ws) (i := -1) (by omega) (by omega)
    obtain ⟨mm, m1, m2⟩ := atI_in (xs := srt ws) (i := (ws.length : Int) / 2) (by omega) (by omega)
    obtain ⟨aa, a1, a2⟩ := atI_in (xs := ws) (i := ns.sum / 3 % (ws.length : Int)) (by omega) (by omega)
    obtain ⟨bb, b1, b2⟩ := atI_in (xs := ws) (i := ns.sum / 5 % (ws.length : Int)) (by omega) (by omega)
    have h3 := smem _ h2
    have a3 := hp2 _ a2
    have b3 := hp2 _ b2
    refine sq_set (En.toI (en_sorted (ed_var rfl))) nw ?_
    refine sq_set (ed_ixI (ed_var rfl) ((ed_neg ed_int).is rfl) h1) nw ?_
    refine sq_set (ed_ixI (ed_var rfl) (ed_IC ((ed_lenI (ed_var rfl)).is (by rw [sl])) ed_int ⟨by decide, by decide⟩) m1) nw ?_
    refine sq_set (ed_II (ed_ixI (ed_var rfl) (ed_IC (ed_IC (ed_var rfl) ed_int ⟨by decide, by decide⟩) (ed_lenI (ed_var rfl)) (by omega)) a1) (ed_ixI (ed_var rfl) (ed_IC (ed_IC (ed_var rfl) ed_int ⟨by decide, by decide⟩) (ed_lenI (ed_var rfl)) (by omega)) b1)) nw ?_
    refine sq_set (ed_max2 (ed_var rfl) (ed_II (ed_II (ed_IC ed_int (ed_var rfl) (.inl ⟨by decide, by decide⟩)) ed_int) (ed_IC (ed_IC (ed_var rfl) ed_int ⟨by decide, by decide⟩) ed_int (by decide)))) nw ?_
    obtain ⟨rr, r1, r2⟩ := atI_in (xs := [hh + ns.sum / 11 % 4, max hh (2 * mm - 1 + ns.sum / 11 % 3), max hh (aa + bb), aa + bb]) (i := ns.sum % 4) (by show -4 ≤ _; omega) (by show _ < (4 : Int); omega)
    refine sg_ret (ed_ixIT (ns := [hh + ns.sum / 11 % 4, max hh (2 * mm - 1 + ns.sum / 11 % 3), max hh (aa + bb), aa + bb]) (ed_tup (ea_cons (ed_II (ed_var rfl) (ed_IC (ed_IC (ed_var rfl) ed_int ⟨by decide, by decide⟩) ed_int (by decide))) (ea_cons (ed_var rfl) (ea_cons (ed_max2 (ed_var rfl) (ed_var rfl)) (ea_cons (ed_var rfl) ea_nil)))) (by show 4 ≤ 1000; decide)) (ed_IC (ed_var rfl) ed_int (by decide)) r1) (congrArg D.int ?_)
    show rr = limF ns ws
    unfold limF
    rw [if_neg h, p0_of h1, p0_of m1, p0_of a1, p0_of b1, p0_of r1]
end

section
variable {P : Program} {w : World} {K : PySem.W.Frag} {mg : Str → Option Value} {base : Heap}
def sp__law_cross : Sp := spG (α := List Int × Int × List (List Int)) (fun a => [il a.1, .int a.2.1, btl a.2.2]) (fun a => a.1.length ≤ 500) (fun a r => ∃ b : Bool, r = .bl b ∧ (b = true ↔ Bp.Cross a.1 a.2.1 a.2.2))
def gC (ws : List Int) (L : Int) (bs : List (List Int)) (x y : Option Slo) (me : List Int) : Gm := ⟨[some (.v (il ws)), some (.v (.int L)), some (.v (btl bs)), none, none, x, y, none], some (3, .lst (me.map D.int))⟩
theorem bad_shape {b : List Int} (h : (decide ((b.length : Int) = 0) || (decide ((b.length : Int) > 2) || (decide ((b.length : Int) = 2) && decide (b.getD 0 0 ≥ b.getD 1 0)))) = false) : ∃ lo hi, (b = [lo] ∧ lo = hi) ∨ (b = [lo, hi] ∧ lo < hi) := by
  match b with
  | [] => cases h
  | [p] => exact ⟨p, p, .inl ⟨rfl, rfl⟩⟩
  | [p, q] =>
    refine ⟨p, q, .inr ⟨rfl, ?_⟩⟩
    simp at h
    omega
  | p :: q :: r :: t =>
    simp at h
    omega
theorem shape_bad {ws : List Int} {L : Int} {b : List Int} (h : (decide ((b.length : Int) = 0) || (decide ((b.length : Int) > 2) || (decide ((b.length : Int) = 2) && decide (b.getD 0 0 ≥ b.getD 1 0)))) = true) : ¬ Bp.goodB ws L b := fun z => by
  rcases z with ⟨p, rfl, h1, h2, h3⟩ | ⟨p, q, rfl, h1, h2, h3, h4⟩
  · simp at h
  · simp at h
    omega
theorem ok__law_cross (T : Tab K mg) : FnOk P w K mg base CX0 1 T.f__law_cross T.d__law_cross ["_law_weights", "_law_limit_here", "_law_boats_here"] (sp__law_cross) := by
  refine T.F__law_cross.ok sc__law_cross (fun vs H Q E h => ?_) (fun cdv A outer s H vs Q E hr h => ?_)
  · obtain ⟨a, S, _, da, _⟩ := h
    exact da.len
  · obtain ⟨⟨ws, L, bs⟩, S, inn, da, hp, q⟩ := h
    refine ⟨_, (pss_cons (ps_setLc (i := 3) (own := [("_law_weight", 4)]) (g := gName 4) (by rfl) sc__law_cross.nd rfl rfl (sw_true rfl rfl rfl (by decide +kernel)) (pi_list (pv 0)) (blkOk_by (own := [("_law_weight", 4)]) (N := ["_law_weights", "_law_limit_here", "_law_boats_here", "_law_met", "_law_weight", "_law_boat", "_law_person", "_law_one"]) (sc := defScope s__law_cross) (by decide +kernel)) (fun _ _ _ _ _ => (pg_name (i := 4) sc__law_cross.nd rfl (by first | exact Or.inl rfl | exact Or.inr rfl))) (fun _ _ _ _ _ => (pts_nil)) (fun _ _ _ _ _ => pe_int))
      (pss_cons (ps_for PassesOwn.never rfl (pi_list (pv 2)) (pg_name (i := 5) sc__law_cross.nd rfl (by first | exact Or.inl rfl | exact Or.inr rfl))
        (pss_cons (ps_if (PW.pt (pw_or (pt_cmpR op_eq (pe_callB (crLen (K := K)) (by rfl) T.z_len (by decide +kernel) (pa_cons (pv 5) pa_nil)) pe_int (nomark _)) (pw_or (pt_cmpR op_gt (pe_callB (crLen (K := K)) (by rfl) T.z_len (by decide +kernel) (pa_cons (pv 5) pa_nil)) pe_int (nomark _)) (pw_or1 (PW.pt (pw_and (pt_cmpR op_eq (pe_callB (crLen (K := K)) (by rfl) T.z_len (by decide +kernel) (pa_cons (pv 5) pa_nil)) pe_int (nomark _)) (pw_and1 (pt_cmpR op_ge (pe_ix (ixT (K := K)) (pv 5) pe_int (fun _ _ => rfl)) (pe_ix (ixT (K := K)) (pv 5) pe_int (fun _ _ => rfl)) (nomark _))))))))) (pss_one (ps_ret pe_bl)) pss_nil)
      (pss_cons (ps_if (PW.pt (pw_or (pt_cmpR op_lt (pe_callB (cr_minT rfl) (by rfl) T.z_min (by decide +kernel) (pa_cons (pv 5) pa_nil)) pe_int (nomark _)) (pw_or1 (pt_cmpR op_ge (pe_callB (cr_maxT rfl) (by rfl) T.z_max (by decide +kernel) (pa_cons (pv 5) pa_nil)) (pe_callB (crLen (K := K)) (by rfl) T.z_len (by decide +kernel) (pa_cons (pv 0) pa_nil)) (nomark _))))) (pss_one (ps_ret pe_bl)) pss_nil)
      (pss_cons (ps_if (pt_cmpR op_gt (pe_callB (cr_sum rfl) (by rfl) T.z_sum (by decide +kernel) (pa_cons (pe_lc (own := [("_law_person", 6)]) (g := gName 6) (by rfl) sc__law_cross.nd (pi_tup (pv 5)) (blkOk_by (own := [("_law_person", 6)]) (N := ["_law_weights", "_law_limit_here", "_law_boats_here", "_law_met", "_law_weight", "_law_boat", "_law_person", "_law_one"]) (sc := defScope s__law_cross) (by decide +kernel)) (fun _ _ _ _ _ => (pg_name (i := 6) sc__law_cross.nd rfl (by first | exact Or.inl rfl | exact Or.inr rfl))) (fun _ _ _ _ _ => (pts_nil)) (fun _ _ _ _ _ => (pe_ix (ixL (K := K)) (pv 0) (pv 6) (fun _ _ => rfl)))) pa_nil)) (pv 1) (nomark _)) (pss_one (ps_ret pe_bl)) pss_nil)
      (pss_one (ps_for PassesOwn.never rfl (pi_tup (pv 5)) (pg_name (i := 6) sc__law_cross.nd rfl (by first | exact Or.inl rfl | exact Or.inr rfl))
        (pss_one (ps_asg (pe_op op_add (pe_ix (ixL (K := K)) (pv 3) (pv 6) (fun _ _ => rfl)) pe_int) (pg_sub (pv 3) (pv 6) set_list)))))))))
      (pss_one (ps_ret (pe_callB (cr_all rfl) (by rfl) T.z_all (by decide +kernel) (pa_cons (pe_lc (own := [("_law_one", 7)]) (g := gName 7) (by rfl) sc__law_cross.nd (pi_list (pv 3)) (blkOk_by (own := [("_law_one", 7)]) (N := ["_law_weights", "_law_limit_here", "_law_boats_here", "_law_met", "_law_weight", "_law_boat", "_law_person", "_law_one"]) (sc := defScope s__law_cross) (by decide +kernel)) (fun _ _ _ _ _ => (pg_name (i := 7) sc__law_cross.nd rfl (by first | exact Or.inl rfl | exact Or.inr rfl))) (fun _ _ _ _ _ => (pts_nil)) (fun _ _ _ _ _ => (pe_cmpR op_eq (pv 7) pe_int (nomark _)))) pa_nil)))))), run_defP (K := K) (E := E) (Xc := fun _ => False) inn da ?_ q (fun _ _ z => z.elim)⟩
    try simp only [kN, kC]
    replace hp : ws.length ≤ 500 := hp
    have no : ∀ b, b ∈ bs → ¬ Bp.goodB ws L b → (fun a r => ∃ b : Bool, r = D.bl b ∧ (b = true ↔ Bp.Cross a.1 a.2.1 a.2.2)) (ws, L, bs) (D.bl false) := fun b hb n => ⟨false, rfl, ⟨fun z => (nomatch z), fun z => (n (z.1 b hb)).elim⟩⟩
    refine sq_own (ds := (Bp.cnts ws.length []).map D.int) ((en_lcIy (ns := ws) (e := fun _ => .int 0) (si_listI (ed_var rfl)) (by omega) nw fun n hn => ed_int).is ?_) (by show 3 < 8; decide) ?_
    · rw [Bp.cnts_nil, List.map_replicate, List.map_const']
    refine sg_seq (N1 := fun G => (∀ b ∈ bs, Bp.goodB ws L b) ∧ ∃ x y, G = gC ws L bs x y (Bp.cnts ws.length bs.flatten)) (sg_for (si_listB (bs := bs) (ed_var rfl)) (fun i G => (∀ b ∈ bs.take i, Bp.goodB ws L b) ∧ ∃ x y, G = gC ws L bs x y (Bp.cnts ws.length (bs.take i).flatten)) ⟨(by rw [List.take_zero]; intro b hb; cases hb), none, none, rfl⟩ ?_ ?_) ?_
    · rintro i d G hd ⟨hall, x, y, rfl⟩
      rw [List.getElem?_map] at hd
      obtain ⟨b, hb, rfl⟩ := Option.map_eq_some_iff.mp hd
      have hbm := List.mem_of_getElem? hb
      refine ⟨_, _, tg_name (fun x hx => by cases hx; show 3 ≠ 5; decide), ?_⟩
      refine sq_when (b := decide ((b.length : Int) = 0) || (decide ((b.length : Int) > 2) || (decide ((b.length : Int) = 2) && decide (b.getD 0 0 ≥ b.getD 1 0)))) ?_ (fun h => sg_ret ed_bl (no b hbm (shape_bad h))) (fun h => ?_)
      · refine et_or (et_T (ed_eqi (ed_lenIT (ed_var rfl)) ed_int)) fun _ => et_or (et_T (ed_IB (ed_lenIT (ed_var rfl)) ed_int)) fun _ => et_and (et_T (ed_eqi (ed_lenIT (ed_var rfl)) ed_int)) fun h => ?_
        rw [decide_eq_true_eq] at h
        have hl : b.length = 2 := by omega
        match b, hl with
        | [p, q], _ => exact et_T (ed_IB (ed_ixIT (n := p) (ed_var rfl) ed_int rfl) (ed_ixIT (n := q) (ed_var rfl) ed_int rfl))
      obtain ⟨lo, hi, hsh⟩ := bad_shape h
      have hlo : lo ∈ b ∧ ∀ z ∈ b, lo ≤ z := by
        rcases hsh with ⟨rfl, rfl⟩ | ⟨rfl, h1⟩ <;> simp <;> omega
      have hhi : hi ∈ b ∧ ∀ z ∈ b, z ≤ hi := by
        rcases hsh with ⟨rfl, rfl⟩ | ⟨rfl, h1⟩ <;> simp <;> omega
      have hlen : b.length ≤ 2 := by
        rcases hsh with ⟨rfl, rfl⟩ | ⟨rfl, h1⟩ <;> simp
      refine sq_when (b := decide (lo < 0) || decide (hi ≥ (ws.length : Int))) (et_or (et_T (ed_IB (ed_minT (ed_var rfl) hlo) ed_int)) fun _ => et_T (ed_IB (ed_maxT (ed_var rfl) hhi) (ed_lenI (ed_var rfl)))) (fun h => sg_ret ed_bl (no b hbm fun z => ?_)) (fun h => ?_)
      · have i1 := z.inR lo hlo.1
        have i2 := z.inR hi hhi.1
        rw [Bool.or_eq_true, decide_eq_true_eq, decide_eq_true_eq] at h
        omega
      rw [Bool.or_eq_false_iff, decide_eq_false_iff_not, decide_eq_false_iff_not] at h
      have inR : ∀ p ∈ b, 0 ≤ p ∧ p < (ws.length : Int) := fun p hp => by
        have := hlo.2 p hp
        have := hhi.2 p hp
        omega
      refine sq_when (b := decide ((b.map (Bp.wt ws)).sum > L)) ?_ (fun h => sg_ret ed_bl (no b hbm fun z => ?_)) (fun h2 => ?_)
      · refine et_T (ed_IB (ed_sum (En.toI ((en_lcIy (ns := b) (e := fun p => .int (Bp.wt ws p)) ?_ (by omega) (fun x hx => by cases hx; show 3 ∉ [6]; decide) fun p hp => ?_).is (by rw [List.map_map]; rfl)))) (ed_var rfl))
        · exact si_tupI (ed_var rfl)
        · have z := inR p hp
          exact ed_ixI (ed_var rfl) (ed_var rfl) (Bp.atI_wt z.1 z.2)
      · rw [decide_eq_true_eq] at h
        rcases z with ⟨p, rfl, h1, h2, h3⟩ | ⟨p, q, rfl, h1, h2, h3, h4⟩ <;> simp at h <;> omega
      rw [decide_eq_false_iff_not] at h2
      have gd : Bp.goodB ws L b := by
        rcases hsh with ⟨rfl, rfl⟩ | ⟨rfl, h1⟩
        · exact .inl ⟨lo, rfl, (inR lo hlo.1).1, (inR lo hlo.1).2, by simpa using h2⟩
        · exact .inr ⟨lo, hi, rfl, h1, (inR lo hlo.1).1, (inR hi hhi.1).2, by simpa using h2⟩
      refine sg_for (si_tupI (ns := b) (ed_var rfl)) (fun j G => ∃ y, G = gC ws L bs (some (.v (itup b))) y (Bp.cnts ws.length ((bs.take i).flatten ++ b.take j))) ⟨y, by rw [List.take_zero, List.append_nil]; rfl⟩ ?_ ?_
      · rintro j d G hd ⟨y, rfl⟩
        rw [List.getElem?_map] at hd
        obtain ⟨p, hp, rfl⟩ := Option.map_eq_some_iff.mp hd
        have z := inR p (List.mem_of_getElem? hp)
        obtain ⟨n, rfl⟩ := Int.eq_ofNat_of_zero_le z.1
        have hn : n < ws.length := by omega
        refine ⟨_, _, tg_name (fun x hx => by cases hx; show 3 ≠ 6; decide), ?_⟩
        refine sg_setIx (i := 3) (j := n) rfl (ed_open rfl (ed_II (ed_ixI (ed_var rfl) (ed_var rfl) (atI_nat (Bp.cnts_at _ hn))) ed_int) trivial) (ed_var rfl) (by rw [List.length_map, Bp.cnts_len]; exact hn) ⟨some (.v (.int (n : Int))), ?_⟩
        rw [List.take_add_one, hp, ← List.append_assoc]
        show _ = gC ws L bs _ _ (Bp.cnts ws.length (_ ++ [(n : Int)]))
        rw [Bp.cnts_snoc hn]
        unfold gC
        rw [List.map_set]
        rfl
      · rintro G ⟨y, rfl⟩
        rw [List.length_map, List.take_length]
        refine ⟨fun c hc => ?_, _, _, by rw [Bp.take_flat hb]⟩
        rw [List.take_add_one, hb, List.mem_append] at hc
        rcases hc with hc | hc
        · exact hall c hc
        · rw [show c = b by simpa using hc]
          exact gd
    · rintro G ⟨hall, x, y, rfl⟩
      rw [List.length_map, List.take_length] at hall
      rw [List.length_map, List.take_length]
      exact ⟨hall, x, y, rfl⟩
    · rintro G ⟨hall, x, y, rfl⟩
      refine sg_ret (d := .bl (((Bp.cnts ws.length bs.flatten).map fun x => decide (x = 1)).all id)) (ed_open rfl (ed_all (En.toEd ((en_lcIy (ns := Bp.cnts ws.length bs.flatten) (e := fun x => .bl (decide (x = 1))) (si_listI (ed_var rfl)) (by rw [Bp.cnts_len]; omega) nw fun n hn => ed_eqi (ed_var rfl) ed_int).is (by rw [List.map_map]; rfl)))) trivial) ⟨_, rfl, ?_⟩
      rw [List.all_map, List.all_eq_true]
      exact ⟨fun h => ⟨hall, fun x hx => by simpa using h x hx⟩, fun h x hx => by simpa using h.2 x hx⟩
end

section
variable {P : Program} {w : World} {K : PySem.W.Frag} {mg : Str → Option Value} {base : Heap}
def sp__law_bound : Sp := spG (α := List Int × Int × Int) (fun a => [il a.1, .int a.2.1, .int a.2.2]) (fun a => Bp.okm a.2.1 a.2.2) (fun a r => r = .int (Bp.bnd a.1 a.2.1 a.2.2))
def gLb (ws : List Int) (L m a b : Int) (x : Option Slo) : Gm := ⟨[some (.v (il ws)), some (.v (.int L)), some (.v (.int m)), some (.v (.int a)), some (.v (.int b)), x], none⟩
theorem lb_snoc {ws : List Int} {L m v : Int} : Bp.lb (ws ++ [v]) L m = ((Bp.lb ws L m).1 + (if L < v + m then 1 else 0), (Bp.lb ws L m).2 + (if L < v + m then 0 else if m ≤ v then 1 else 0)) := by
  unfold Bp.lb Bp.hv
  rw [List.filter_append, List.filter_append]
  by_cases h : L < v + m
  · simp [h]
  · by_cases h2 : m ≤ v
    · simp [h, h2]
    · simp [h, h2]
theorem ok__law_bound (T : Tab K mg) : FnOk P w K mg base CX0 1 T.f__law_bound T.d__law_bound ["_law_weights", "_law_limit_here", "_law_mark"] (sp__law_bound) := by
  refine T.F__law_bound.ok sc__law_bound (fun vs H Q E h => ?_) (fun cdv A outer s H vs Q E hr h => ?_)
  · obtain ⟨a, S, _, da, _⟩ := h
    exact da.len
  · obtain ⟨⟨ws, L, m⟩, S, inn, da, hp, q⟩ := h
    refine ⟨_, (pss_cons (ps_set (i := 3) sc__law_bound.nd rfl (by first | exact Or.inl rfl | exact Or.inr rfl) pe_int)
      (pss_cons (ps_set (i := 4) sc__law_bound.nd rfl (by first | exact Or.inl rfl | exact Or.inr rfl) pe_int)
      (pss_cons (ps_for PassesOwn.never rfl (pi_list (pv 0)) (pg_name (i := 5) sc__law_bound.nd rfl (by first | exact Or.inl rfl | exact Or.inr rfl))
        (pss_one (ps_if (pt_cmpR op_gt (pe_op op_add (pv 5) (pv 2)) (pv 1) (nomark _)) (pss_one (ps_set (i := 3) sc__law_bound.nd rfl (by first | exact Or.inl rfl | exact Or.inr rfl) (pe_op op_add (pv 3) pe_int))) (pss_one (ps_if (pt_cmpR op_ge (pv 5) (pv 2) (nomark _)) (pss_one (ps_set (i := 4) sc__law_bound.nd rfl (by first | exact Or.inl rfl | exact Or.inr rfl) (pe_op op_add (pv 4) pe_int))) pss_nil)))))
      (pss_one (ps_ret (pe_op op_add (pe_op op_add (pv 3) (pe_op op_fdiv (pv 4) pe_int)) (pe_op op_mod (pv 4) pe_int))))))), run_defP (K := K) (E := E) (Xc := fun _ => False) inn da ?_ q (fun _ _ z => z.elim)⟩
    try simp only [kN, kC]
    replace hp : Bp.okm L m := hp
    refine sq_set ed_int nw ?_
    refine sq_set ed_int nw ?_
    refine sg_seq (N1 := fun G => ∃ x, G = gLb ws L m (Bp.lb ws L m).1 (Bp.lb ws L m).2 x) (sg_for (si_listI (ns := ws) (ed_var rfl)) (fun i G => ∃ x, G = gLb ws L m (Bp.lb (ws.take i) L m).1 (Bp.lb (ws.take i) L m).2 x) ⟨none, rfl⟩ ?_ ?_) ?_
    · rintro i d G hd ⟨x, rfl⟩
      rw [List.getElem?_map] at hd
      obtain ⟨v, hv, rfl⟩ := Option.map_eq_some_iff.mp hd
      have e : Bp.lb (ws.take (i + 1)) L m = _ := (congrArg (fun z => Bp.lb z L m) (show ws.take (i + 1) = ws.take i ++ [v] by rw [List.take_add_one, hv]; rfl)).trans lb_snoc
      refine ⟨_, _, tg_name nw, ?_⟩
      refine sg_if (b := decide (L < v + m)) (et_T (ed_IB (ed_II (ed_var rfl) (ed_var rfl)) (ed_var rfl))) (fun h => ?_) (fun h => ?_)
      · rw [decide_eq_true_eq] at h
        refine sg_set (ed_II (ed_var rfl) ed_int) nw ⟨some (.v (.int v)), ?_⟩
        rw [e, if_pos h, if_pos h, Int.add_zero]
        rfl
      · rw [decide_eq_false_iff_not] at h
        refine sg_if (b := decide (m ≤ v)) (et_T (ed_IB (ed_var rfl) (ed_var rfl))) (fun h2 => ?_) (fun h2 => ?_)
        · rw [decide_eq_true_eq] at h2
          refine sg_set (ed_II (ed_var rfl) ed_int) nw ⟨some (.v (.int v)), ?_⟩
          rw [e, if_neg h, if_neg h, if_pos h2, Int.add_zero]
          rfl
        · rw [decide_eq_false_iff_not] at h2
          refine sg_next ⟨some (.v (.int v)), ?_⟩
          rw [e, if_neg h, if_neg h, if_neg h2, Int.add_zero, Int.add_zero]
          rfl
    · rintro G ⟨x, rfl⟩
      rw [List.length_map, List.take_length]
      exact ⟨x, rfl⟩
    · rintro G ⟨x, rfl⟩
      refine sg_ret ((ed_II (ed_II (ed_var rfl) (ed_IC (ed_var rfl) ed_int ⟨by decide, by decide⟩)) (ed_IC (ed_var rfl) ed_int (by decide))).is (congrArg D.int (Bp.lb_bnd (ws := ws) hp))) rfl
end

section
variable {P : Program} {w : World} {K : PySem.W.Frag} {mg : Str → Option Value} {base : Heap}
def sp__law_boats : Sp := spG (α := List Int × Int × List (List Int) × Int) (fun a => [il a.1, .int a.2.1, btl a.2.2.1, .int a.2.2.2]) (fun a => a.1.length ≤ 500) (fun a r => r = .bl (Bp.showsF a.1 a.2.1 a.2.2.1 a.2.2.2))
theorem ed__law_bound {Γ : Gm} {E : XK} {ta : TA} {ws : List Int} {L m : Int} (h : Ea K ta Γ [il ws, .int L, .int m]) (hm : Bp.okm L m) : Ed K (tCall sp__law_bound [] E ta) Γ (.int (Bp.bnd ws L m)) := (eg_call (ws, L, m) h hm).toEd
open Classical in
theorem ed__law_cross {Γ : Gm} {E : XK} {ta : TA} {ws : List Int} {L : Int} {bs : List (List Int)} (h : Ea K ta Γ [il ws, .int L, btl bs]) (hz : ws.length ≤ 500) : Ed K (tCall sp__law_cross [] E ta) Γ (.bl (decide (Bp.Cross ws L bs))) :=
  ((eg_call (ws, L, bs) h hz).imp fun d ⟨b, e, i⟩ => by
    rw [e]
    exact congrArg D.bl (Bool.eq_iff_iff.mpr (i.trans (decide_eq_true_iff).symm))).toEd
theorem ok__law_boats (T : Tab K mg) : FnOk P w K mg base CX0 2 T.f__law_boats T.d__law_boats ["_law_weights", "_law_limit_here", "_law_boats_here", "_law_mark"] (sp__law_boats) := by
  refine T.F__law_boats.ok sc__law_boats (fun vs H Q E h => ?_) (fun cdv A outer s H vs Q E hr h => ?_)
  · obtain ⟨a, S, _, da, _⟩ := h
    exact da.len
  · obtain ⟨⟨ws, L, bs, m⟩, S, inn, da, hp, q⟩ := h
    refine ⟨_, (pss_cons (ps_if (PW.pt (pw_or (pt_cmpR op_lt (pv 3) pe_int (nomark _)) (pw_or (pt_cmpR op_gt (pe_op op_mul pe_int (pv 3)) (pe_op op_add (pv 1) pe_int) (nomark _)) (pw_or1 (pt_not (pt_val (pe_call (ok__law_cross T) (hr.mono (by decide)) (by rfl) T.g__law_cross T.F__law_cross.kp T.b__law_cross .nil pass0 (pa_cons (pv 0) (pa_cons (pv 1) (pa_cons (pv 2) pa_nil)))))))))) (pss_one (ps_ret pe_bl)) pss_nil)
      (pss_one (ps_ret (pe_cmpR op_eq (pe_callB (crLen (K := K)) (by rfl) T.z_len (by decide +kernel) (pa_cons (pv 2) pa_nil)) (pe_call (ok__law_bound T) (hr.mono (by decide)) (by rfl) T.g__law_bound T.F__law_bound.kp T.b__law_bound .nil pass0 (pa_cons (pv 0) (pa_cons (pv 1) (pa_cons (pv 3) pa_nil)))) (nomark _))))), run_defP (K := K) (E := E) (Xc := fun _ => False) inn da ?_ q (fun _ _ z => z.elim)⟩
    try simp only [kN, kC]
    replace hp : ws.length ≤ 500 := hp
    classical
    refine sq_when (b := decide (m < 0) || (decide (2 * m > L + 1) || !decide (Bp.Cross ws L bs))) ?_ (fun h => sg_ret ed_bl ?_) (fun h => ?_)
    · exact et_or (et_T (ed_IB (ed_var rfl) ed_int)) fun _ => et_or (et_T (ed_IB (ed_IC ed_int (ed_var rfl) (.inl ⟨by decide, by decide⟩)) (ed_II (ed_var rfl) ed_int))) fun _ => et_not (et_B (ed__law_cross (ea_cons (ed_var rfl) (ea_cons (ed_var rfl) (ea_cons (ed_var rfl) ea_nil))) hp))
    · refine congrArg D.bl (Eq.symm ?_)
      rw [← Bool.not_eq_true, Bp.shows_iff]
      rintro ⟨c, ⟨m0, m1⟩, _⟩
      rw [decide_eq_false (show ¬ m < 0 by omega), decide_eq_false (show ¬ 2 * m > L + 1 by omega), decide_eq_true c] at h
      cases h
    · rw [Bool.or_eq_false_iff, Bool.or_eq_false_iff, decide_eq_false_iff_not, decide_eq_false_iff_not, Bool.not_eq_false', decide_eq_true_eq] at h
      obtain ⟨h1, h2, h3⟩ := h
      have ok : Bp.okm L m := ⟨by omega, by omega⟩
      refine sg_ret (ed_eqi (ed_lenB (ed_var rfl)) (ed__law_bound (ea_cons (ed_var rfl) (ea_cons (ed_var rfl) (ea_cons (ed_var rfl) ea_nil))) ok)) (congrArg D.bl (Bool.eq_iff_iff.mpr ?_))
      show _ ↔ Bp.showsF ws L bs m = true
      rw [decide_eq_true_eq, Bp.shows_iff]
      exact ⟨fun e => ⟨h3, ok, e⟩, fun e => e.2.2⟩
end

section
variable {P : Program} {w : World} {K : PySem.W.Frag} {mg : Str → Option Value} {base : Heap}
def sp__law_says : Sp := spG (α := Bool × Bool) (fun a => [.bl a.1, .bl a.2]) (fun _ => True) (fun a r => r = .bl (a.1 == a.2))
theorem ok__law_says (T : Tab K mg) : FnOk P w K mg base CX0 1 T.f__law_says T.d__law_says ["_law_said", "_law_due"] (sp__law_says) := by
  refine T.F__law_says.ok sc__law_says (fun vs H Q E h => ?_) (fun cdv A outer s H vs Q E hr h => ?_)
  · obtain ⟨a, S, _, da, _⟩ := h
    exact da.len
  · obtain ⟨⟨a, b⟩, S, inn, da, hp, q⟩ := h
    refine ⟨_, (pss_one (ps_ret (pe_and (pe_callB (isI (K := K)) (by rfl) T.z_isinstance (by decide +kernel) (pa_cons (pv 0) (pa_cons (pe_bltn (v := .ty "bool") (by rfl) T.z_bool (by decide +kernel) rfl) pa_nil))) (pe_one (pe_cmpR op_eq (pv 0) (pv 1) (nomark _)))))), run_defP (K := K) (E := E) (Xc := fun _ => False) inn da ?_ q (fun _ _ z => z.elim)⟩
    try simp only [kN, kC]
    exact sg_ret ((ed_and (ed_isiB (t := "bool") (b := true) (ed_var rfl) rfl (by decide +kernel)) fun _ => ed_eqb (ed_var rfl) (ed_var rfl)).is (by rw [Bool.true_and])) rfl
end

section
variable {P : Program} {w : World} {K : PySem.W.Frag} {mg : Str → Option Value} {base : Heap}
def bentOk (bs : List (List Int)) : Prop := ∀ b ∈ bs, 1 ≤ b.length ∧ b.length ≤ 2
def sp__law_bent : Sp := spG (α := List (List Int) × Int × Int) (fun a => [btl a.1, .int a.2.1, .int a.2.2]) (fun a => a.1.length ≤ 50 ∧ (∀ b ∈ a.1, 1 ≤ b.length ∧ b.length ≤ 2) ∧ 1 ≤ a.2.2) (fun _ r => ∃ bs', r = btl bs' ∧ bs'.flatten.length ≤ 500 ∧ bs'.length ≤ 500)
theorem flat_four : ∀ {bs : List (List Int)}, (∀ b ∈ bs, b.length ≤ 4) → bs.flatten.length ≤ 4 * bs.length
  | [], _ => Nat.le_refl _
  | b :: r, h => by
    have h1 := h b (List.mem_cons_self ..)
    have h2 := flat_four (bs := r) fun c hc => h c (List.mem_cons_of_mem _ hc)
    rw [List.flatten_cons, List.length_append, List.length_cons]
    omega
/-- the slots: what is bent so far is of at most a boats, each of p to q people -/
def gBt (bs : List (List Int)) (cell many kind at_ : Int) (so : List (List Int)) (x : Option Slo) : Gm := ⟨[some (.v (btl bs)), some (.v (.int cell)), some (.v (.int many)), some (.v (.int kind)), some (.v (.int at_)), some (.v (btl so)), x], none⟩
def gInv (bs : List (List Int)) (cell many kind at_ : Int) (a p q : Nat) (G : Gm) : Prop := ∃ so x, G = gBt bs cell many kind at_ so x ∧ so.length ≤ a ∧ ∀ b ∈ so, p ≤ b.length ∧ b.length ≤ q
theorem gInv.up {bs : List (List Int)} {cell many kind at_ : Int} {a p q a' p' q' : Nat} {G : Gm} (h : gInv bs cell many kind at_ a p q G) (ha : a ≤ a') (hp : p' ≤ p) (hq : q ≤ q') : gInv bs cell many kind at_ a' p' q' G := by
  obtain ⟨so, x, e, h1, h2⟩ := h
  exact ⟨so, x, e, by omega, fun b hb => by
    have := h2 b hb
    omega⟩
theorem at_first {b : List Int} (h : 1 ≤ b.length) : atI b 0 = some ((atI b 0).getD 0) := by
  obtain ⟨v, h1, _⟩ := atI_in (xs := b) (i := 0) (by omega) (by omega)
  rw [h1]
  rfl
/-- one kind: what is bent is bent anew -/
theorem sg_kind {E : XK} {Xc : Addr → Prop} {Bk Ct : Gm → Prop} {R : Rt} {bs : List (List Int)} {cell many kind at_ : Int} {a p q : Nat} (k : Int) (a' p' q' : Nat) {te : TE} {G : Gm} (h : gInv bs cell many kind at_ a p q G)
    (ha : a ≤ a') (hp : p' ≤ p) (hq : q ≤ q')
    (he : ∀ so x, so.length ≤ a → (∀ b ∈ so, p ≤ b.length ∧ b.length ≤ q) → ∃ so', Ed K te (gBt bs cell many kind at_ so x) (btl so') ∧ so'.length ≤ a' ∧ ∀ b ∈ so', p' ≤ b.length ∧ b.length ≤ q') :
    Sg K E Xc (tIfS (tTest (tOp rEq (tVar 3) (tC (.int k)))) (tAsg te (gName 5)) tNext) G (gInv bs cell many kind at_ a' p' q') Bk Ct R := by
  obtain ⟨so, x, rfl, h1, h2⟩ := h
  refine sg_if (et_T (ed_eqi (i := kind) (j := k) (ed_var rfl) ed_int)) (fun _ => ?_) (fun _ => sg_next (gInv.up ⟨so, x, rfl, h1, h2⟩ ha hp hq))
  obtain ⟨so', h3, h4, h5⟩ := he so x h1 h2
  exact sg_set h3 nw ⟨so', x, rfl, h4, h5⟩
/-- each boat is bent -/
theorem ed_bend {te : TE} {bs : List (List Int)} {cell many kind at_ : Int} {so : List (List Int)} {x : Option Slo} (f : List Int → List Int) (hz : so.length ≤ 900)
    (he : ∀ b ∈ so, Ed K te (gBt bs cell many kind at_ so (some (.v (itup b)))) (itup (f b))) : Ed K (tLc (iList K (tVar 5)) (gName 6) tYes te [6]) (gBt bs cell many kind at_ so x) (btl (so.map f)) :=
  En.toB ((en_lcAy (xs := so) (emb := itup) (e := fun b => itup (f b)) (si_listB (ed_var rfl)) (by omega) nw he).is (by rw [List.map_map]; rfl))
theorem bend_all {so : List (List Int)} {f : List Int → List Int} {p q p' q' : Nat} (h2 : ∀ b ∈ so, p ≤ b.length ∧ b.length ≤ q) (h : ∀ b : List Int, p ≤ b.length ∧ b.length ≤ q → p' ≤ (f b).length ∧ (f b).length ≤ q') : ∀ b ∈ so.map f, p' ≤ b.length ∧ b.length ≤ q' := fun b hb => by
  obtain ⟨c, hc, rfl⟩ := List.mem_map.mp hb
  exact h c (h2 c hc)
theorem cut_one {b : List Int} (h : 1 ≤ b.length) : (cutG b none (some 1)).length = 1 := by
  unfold cutG
  rw [List.length_take]
  show min (HT.sIx b.length b.length (some ((1 : Nat) : Int)) - 0) ((b.drop 0).length) = 1
  rw [HT.sIx_nat, List.drop_zero]
  omega
theorem ok__law_bent (T : Tab K mg) : FnOk P w K mg base CX0 1 T.f__law_bent T.d__law_bent ["_law_boats_here", "_law_cell", "_law_many"] (sp__law_bent) := by
  refine T.F__law_bent.ok sc__law_bent (fun vs H Q E h => ?_) (fun cdv A outer s H vs Q E hr h => ?_)
  · obtain ⟨a, S, _, da, _⟩ := h
    exact da.len
  · obtain ⟨⟨bs, cell, many⟩, S, inn, da, hp, q⟩ := h
    refine ⟨_, (pss_cons (ps_set (i := 3) sc__law_bent.nd rfl (by first | exact Or.inl rfl | exact Or.inr rfl) (pe_op op_mod (pv 1) pe_int))
      (pss_cons (ps_set (i := 4) sc__law_bent.nd rfl (by first | exact Or.inl rfl | exact Or.inr rfl) (pe_op op_mod (pe_op op_fdiv (pv 1) pe_int) (pe_op op_add (pe_callB (crLen (K := K)) (by rfl) T.z_len (by decide +kernel) (pa_cons (pv 0) pa_nil)) pe_int)))
      (pss_cons (ps_set (i := 5) sc__law_bent.nd rfl (by first | exact Or.inl rfl | exact Or.inr rfl) (pe_slice (slL (K := K)) (pv 0) (po_some (pv 4)) (po_some (pe_op op_add (pv 4) pe_int))))
      (pss_cons (ps_if (pt_cmpR op_eq (pv 3) pe_int (nomark _)) (pss_one (ps_setLc (i := 5) (own := [("_law_boat", 6)]) (g := gName 6) (by rfl) sc__law_bent.nd rfl rfl (sw_true rfl rfl rfl (by decide +kernel)) (pi_list (pv 5)) (blkOk_by (own := [("_law_boat", 6)]) (N := ["_law_boats_here", "_law_cell", "_law_many", "_law_kind", "_law_at", "_law_some", "_law_boat"]) (sc := defScope s__law_bent) (by decide +kernel)) (fun _ _ _ _ _ => (pg_name (i := 6) sc__law_bent.nd rfl (by first | exact Or.inl rfl | exact Or.inr rfl))) (fun _ _ _ _ _ => (pts_nil)) (fun _ _ _ _ _ => (pe_slice (slT (K := K)) (pv 6) po_none (po_some pe_int))))) pss_nil)
      (pss_cons (ps_if (pt_cmpR op_eq (pv 3) pe_int (nomark _)) (pss_one (ps_setLc (i := 5) (own := [("_law_boat", 6)]) (g := gName 6) (by rfl) sc__law_bent.nd rfl rfl (sw_true rfl rfl rfl (by decide +kernel)) (pi_list (pv 5)) (blkOk_by (own := [("_law_boat", 6)]) (N := ["_law_boats_here", "_law_cell", "_law_many", "_law_kind", "_law_at", "_law_some", "_law_boat"]) (sc := defScope s__law_bent) (by decide +kernel)) (fun _ _ _ _ _ => (pg_name (i := 6) sc__law_bent.nd rfl (by first | exact Or.inl rfl | exact Or.inr rfl))) (fun _ _ _ _ _ => (pts_nil)) (fun _ _ _ _ _ => (pe_revT (K := K) (pv 6))))) pss_nil)
      (pss_cons (ps_if (pt_cmpR op_eq (pv 3) pe_int (nomark _)) (pss_one (ps_set (i := 5) sc__law_bent.nd rfl (by first | exact Or.inl rfl | exact Or.inr rfl) (pe_lst pa_nil))) pss_nil)
      (pss_cons (ps_if (pt_cmpR op_eq (pv 3) pe_int (nomark _)) (pss_one (ps_set (i := 5) sc__law_bent.nd rfl (by first | exact Or.inl rfl | exact Or.inr rfl) (pe_op op_cat (pv 5) (pv 5)))) pss_nil)
      (pss_cons (ps_if (pt_cmpR op_eq (pv 3) pe_int (nomark _)) (pss_one (ps_setLc (i := 5) (own := [("_law_boat", 6)]) (g := gName 6) (by rfl) sc__law_bent.nd rfl rfl (sw_true rfl rfl rfl (by decide +kernel)) (pi_list (pv 5)) (blkOk_by (own := [("_law_boat", 6)]) (N := ["_law_boats_here", "_law_cell", "_law_many", "_law_kind", "_law_at", "_law_some", "_law_boat"]) (sc := defScope s__law_bent) (by decide +kernel)) (fun _ _ _ _ _ => (pg_name (i := 6) sc__law_bent.nd rfl (by first | exact Or.inl rfl | exact Or.inr rfl))) (fun _ _ _ _ _ => (pts_nil)) (fun _ _ _ _ _ => (pe_tup (pa_cons (pe_ix (ixT (K := K)) (pv 6) pe_int (fun _ _ => rfl)) (pa_cons (pe_op op_sub (pe_op op_mod (pe_op op_fdiv (pv 1) pe_int) (pe_op op_add (pv 2) pe_int)) pe_int) pa_nil)))))) pss_nil)
      (pss_cons (ps_if (pt_cmpR op_eq (pv 3) pe_int (nomark _)) (pss_one (ps_setLc (i := 5) (own := [("_law_boat", 6)]) (g := gName 6) (by rfl) sc__law_bent.nd rfl rfl (sw_true rfl rfl rfl (by decide +kernel)) (pi_list (pv 5)) (blkOk_by (own := [("_law_boat", 6)]) (N := ["_law_boats_here", "_law_cell", "_law_many", "_law_kind", "_law_at", "_law_some", "_law_boat"]) (sc := defScope s__law_bent) (by decide +kernel)) (fun _ _ _ _ _ => (pg_name (i := 6) sc__law_bent.nd rfl (by first | exact Or.inl rfl | exact Or.inr rfl))) (fun _ _ _ _ _ => (pts_nil)) (fun _ _ _ _ _ => (pe_op (catT (K := K)) (pv 6) (pe_tup (pa_cons (pe_op op_mod (pe_op op_fdiv (pv 1) pe_int) (pv 2)) pa_nil)))))) pss_nil)
      (pss_cons (ps_if (pt_cmpR op_eq (pv 3) pe_int (nomark _)) (pss_one (ps_set (i := 5) sc__law_bent.nd rfl (by first | exact Or.inl rfl | exact Or.inr rfl) (pe_op op_cat (pv 5) (pe_lst (pa_cons (pe_tup pa_nil) pa_nil))))) pss_nil)
      (pss_cons (ps_if (PW.pt (pw_and (pt_cmpR op_eq (pv 3) pe_int (nomark _)) (pw_and1 (pt_cmpR op_gt (pe_callB (crLen (K := K)) (by rfl) T.z_len (by decide +kernel) (pa_cons (pv 0) pa_nil)) pe_int (nomark _))))) (pss_one (ps_ret (pe_op op_cat (pe_lst (pa_cons (pe_op (catT (K := K)) (pe_ix (ixL (K := K)) (pv 0) pe_int (fun _ _ => rfl)) (pe_ix (ixL (K := K)) (pv 0) (pe_un un_neg pe_int) (fun _ _ => rfl))) pa_nil)) (pe_slice (slL (K := K)) (pv 0) (po_some pe_int) (po_some (pe_un un_neg pe_int)))))) pss_nil)
      (pss_one (ps_ret (pe_op op_cat (pe_op op_cat (pe_slice (slL (K := K)) (pv 0) po_none (po_some (pv 4))) (pv 5)) (pe_slice (slL (K := K)) (pv 0) (po_some (pe_op op_add (pv 4) pe_int)) po_none))))))))))))))), run_defP (K := K) (E := E) (Xc := fun _ => False) inn da ?_ q (fun _ _ z => z.elim)⟩
    try simp only [kN, kC]
    obtain ⟨hp1, hp2, hp3⟩ : bs.length ≤ 50 ∧ (∀ b ∈ bs, 1 ≤ b.length ∧ b.length ≤ 2) ∧ 1 ≤ many := hp
    refine sq_set (ed_IC (ed_var rfl) ed_int (by decide)) nw ?_
    refine sq_set (ed_IC (ed_IC (ed_var rfl) ed_int ⟨by decide, by decide⟩) (ed_II (ed_lenB (ed_var rfl)) ed_int) (by show (0 : Int) < (bs.length : Int) + 1; omega)) nw ?_
    have at0 := Int.emod_nonneg (cell / 9) (show (bs.length : Int) + 1 ≠ 0 by omega)
    generalize cell / 9 % ((bs.length : Int) + 1) = at_ at at0 ⊢
    generalize cell % 9 = kind
    have hcut : (cutG bs (some at_) (some (at_ + 1))).length ≤ 1 := by
      obtain ⟨n, rfl⟩ := Int.eq_ofNat_of_zero_le at0
      unfold cutG
      rw [show ((n : Int) + 1) = ((n + 1 : Nat) : Int) by omega, HT.sIx_nat, HT.sIx_nat, List.length_take]
      omega
    refine sg_seq (N1 := gInv bs cell many kind at_ 1 1 2) (sg_set (d := btl (cutG bs (some at_) (some (at_ + 1)))) (En.toB (en_slB (ed_var rfl) (eo_some (ed_var rfl)) (eo_some (ed_II (ed_var rfl) ed_int)))) nw ⟨_, none, rfl, hcut, fun b hb => hp2 b (cutG_mem hb)⟩) ?_
    intro G h
    refine sg_seq (sg_kind 1 1 1 2 h (Nat.le_refl _) (Nat.le_refl _) (Nat.le_refl _) fun so x h1 h2 => ⟨_, ed_bend (fun b => cutG b none (some 1)) (by omega) (fun b _ => ed_slIT (ed_var rfl) eo_none (eo_some ed_int)), by rw [List.length_map]; exact h1, bend_all h2 fun b hb => by
      have e := cut_one hb.1
      omega⟩) ?_
    clear h
    intro G h
    refine sg_seq (sg_kind 2 1 1 2 h (Nat.le_refl _) (Nat.le_refl _) (Nat.le_refl _) fun so x h1 h2 => ⟨_, ed_bend (fun b => b.reverse) (by omega) (fun b _ => ed_revIT (ed_var rfl)), by rw [List.length_map]; exact h1, bend_all h2 fun b hb => by
      rw [List.length_reverse]
      exact hb⟩) ?_
    clear h
    intro G h
    refine sg_seq (sg_kind 3 1 1 2 h (Nat.le_refl _) (Nat.le_refl _) (Nat.le_refl _) fun so x h1 h2 => ⟨[], En.toB (bs := []) (en_lst ea_nil (by decide)), by decide, fun b hb => by cases hb⟩) ?_
    clear h
    intro G h
    refine sg_seq (sg_kind 4 2 1 2 h (by decide) (Nat.le_refl _) (Nat.le_refl _) fun so x h1 h2 => ⟨so ++ so, En.toB (en_catB (ed_var rfl) (ed_var rfl) (by omega)), by rw [List.length_append]; omega, fun b hb => by
      rcases List.mem_append.mp hb with hb | hb <;> exact h2 b hb⟩) ?_
    clear h
    intro G h
    have hm2 : (0 : Int) < many + 2 := by omega
    refine sg_seq (sg_kind 5 2 1 2 h (Nat.le_refl _) (Nat.le_refl _) (Nat.le_refl _) fun so x h1 h2 => ⟨_, ed_bend (fun b => [(atI b 0).getD 0, cell / 90 % (many + 2) - 1]) (by omega) (fun b hb => ed_tup (ea_cons (ed_ixIT (ed_var rfl) ed_int (at_first (h2 b hb).1)) (ea_cons (ed_II (ed_IC (ed_IC (ed_var rfl) ed_int ⟨by decide, by decide⟩) (ed_II (ed_var rfl) ed_int) hm2) ed_int) ea_nil)) (by show 2 ≤ 1000; decide)), by rw [List.length_map]; exact h1, bend_all h2 fun b hb => ⟨by show 1 ≤ 2; decide, by show 2 ≤ 2; decide⟩⟩) ?_
    clear h
    intro G h
    have hm1 : (0 : Int) < many := by omega
    refine sg_seq (sg_kind 6 2 1 3 h (Nat.le_refl _) (Nat.le_refl _) (by decide) fun so x h1 h2 => ⟨_, ed_bend (fun b => b ++ [cell / 90 % many]) (by omega) (fun b hb => ed_catIT (ed_var rfl) (ed_tup (ds := [.int (cell / 90 % many)]) (ea_cons (ed_IC (ed_IC (ed_var rfl) ed_int ⟨by decide, by decide⟩) (ed_var rfl) hm1) ea_nil) (by show 1 ≤ 1000; decide)) (by have := (h2 b hb).2; show b.length + 1 ≤ 1000; omega)), by rw [List.length_map]; exact h1, bend_all h2 fun b hb => by
      rw [List.length_append]
      show 1 ≤ b.length + 1 ∧ b.length + 1 ≤ 3
      omega⟩) ?_
    clear h
    intro G h
    refine sg_seq (sg_kind 7 3 0 3 h (by decide) (by decide) (Nat.le_refl _) fun so x h1 h2 => ⟨so ++ [[]], En.toB (en_catB (ed_var rfl) (En.toB (bs := [[]]) (en_lst (ea_cons (ed_tup (ds := []) ea_nil (by decide)) ea_nil) (by show 1 ≤ 1000; decide))) (by show so.length + 1 ≤ 1000; omega)), by rw [List.length_append]; show so.length + 1 ≤ 3; omega, fun b hb => by
      rcases List.mem_append.mp hb with hb | hb
      · have := h2 b hb
        omega
      · rw [List.mem_singleton.mp hb]
        decide⟩) ?_
    clear h
    rintro G ⟨so, x, rfl, h1, h2⟩
    refine sq_when (b := decide (kind = 8) && decide ((bs.length : Int) > 1)) (et_and (et_T (ed_eqi (ed_var rfl) ed_int)) fun _ => et_T (ed_IB (ed_lenB (ed_var rfl)) ed_int)) (fun c => ?_) (fun _ => ?_)
    · rw [Bool.and_eq_true, decide_eq_true_eq, decide_eq_true_eq] at c
      obtain ⟨b0, e0, m0⟩ := atI_in (xs := bs) (i := 0) (by omega) (by omega)
      obtain ⟨b1, e1, m1⟩ := atI_in (xs := bs) (i := -1) (by omega) (by omega)
      have z0 := hp2 b0 m0
      have z1 := hp2 b1 m1
      have hcl := cutG_len bs (some 1) (some (-1))
      refine sg_ret (d := btl ([b0 ++ b1] ++ cutG bs (some 1) (some (-1)))) (En.toB (en_catB (En.toB (bs := [b0 ++ b1]) (en_lst (ea_cons (ed_catIT (ed_ixB (ed_var rfl) ed_int e0) (ed_ixB (ed_var rfl) (ed_neg ed_int) e1) (by omega)) ea_nil) (by show 1 ≤ 1000; decide))) (En.toB (en_slB (ed_var rfl) (eo_some ed_int) (eo_some (ed_neg ed_int)))) (by show 1 + _ ≤ 1000; omega))) ?_
      have f := flat_four (bs := [b0 ++ b1] ++ cutG bs (some 1) (some (-1))) fun b hb => by
        rcases List.mem_append.mp hb with hb | hb
        · rw [List.mem_singleton.mp hb, List.length_append]
          omega
        · have := hp2 b (cutG_mem hb)
          omega
      have l : ([b0 ++ b1] ++ cutG bs (some 1) (some (-1))).length = 1 + (cutG bs (some 1) (some (-1))).length := List.length_append
      exact ⟨_, rfl, by omega, by omega⟩
    · have l1 := cutG_len bs none (some at_)
      have l2 := cutG_len bs (some (at_ + 1)) none
      refine sg_ret (d := btl (cutG bs none (some at_) ++ so ++ cutG bs (some (at_ + 1)) none)) (En.toB (en_catB (En.toB (en_catB (En.toB (en_slB (ed_var rfl) eo_none (eo_some (ed_var rfl)))) (ed_var rfl) (by omega))) (En.toB (en_slB (ed_var rfl) (eo_some (ed_II (ed_var rfl) ed_int)) eo_none)) (by rw [List.length_append]; omega))) ?_
      have f := flat_four (bs := cutG bs none (some at_) ++ so ++ cutG bs (some (at_ + 1)) none) fun b hb => by
        rcases List.mem_append.mp hb with hb | hb
        · rcases List.mem_append.mp hb with hb | hb
          · have := hp2 b (cutG_mem hb)
            omega
          · have := h2 b hb
            omega
        · have := hp2 b (cutG_mem hb)
          omega
      have l : (cutG bs none (some at_) ++ so ++ cutG bs (some (at_ + 1)) none).length = (cutG bs none (some at_)).length + so.length + (cutG bs (some (at_ + 1)) none).length := by rw [List.length_append, List.length_append]
      exact ⟨_, rfl, by omega, by omega⟩
end

section
variable {P : Program} {w : World} {K : PySem.W.Frag} {mg : Str → Option Value} {base : Heap}
theorem no_sh {x y : V} : List.lookup ("shows" : Str) [(("boats" : Str), x), ("mark", y)] = none := by
  have h1 : (("shows" : Str) == "boats") = false := by decide +kernel
  have h2 : (("shows" : Str) == "mark") = false := by decide +kernel
  simp only [List.lookup, h1, h2]
theorem no_shH {x : V} : List.lookup ("shows" : Str) [(("person" : Str), x)] = none := by
  have h1 : (("shows" : Str) == "person") = false := by decide +kernel
  simp only [List.lookup, h1]
theorem ed_shB (T : Tab K mg) {Γ : Gm} {E : XK} {to : TE} {ta : TA} {bs : List (List Int)} {ws : List Int} {L m : Int} (ho : Ed K to Γ (.bts T.c_Boats (btl bs) (.int m))) (h : Ea K ta Γ [il ws, .int L]) (hz : bs.flatten.length ≤ 500 ∧ bs.length ≤ 500 ∧ ws.length ≤ 500) :
    Ed K (tMeth T.c_Boats "shows" (sp_Boats_shows T) [] E to ta) Γ (.bl (Bp.showsF ws L bs m)) := (eg_methB (bs, m, ws, L) ho (fun _ _ => no_sh) h rfl hz).toEd
theorem ed_shH (T : Tab K mg) {Γ : Gm} {E : XK} {to : TE} {ta : TA} {ws : List Int} {L p : Int} (ho : Ed K to Γ (.hvy T.c_Heavy (.int p))) (h : Ea K ta Γ [il ws, .int L]) :
    Ed K (tMeth T.c_Heavy "shows" (sp_Heavy_shows T) [] E to ta) Γ (.bl (Bp.heavyF ws L p)) := (eg_methH (p, ws, L) ho (fun _ => no_shH) h rfl trivial).toEd
theorem ed__law_says {Γ : Gm} {E : XK} {ta : TA} {a b : Bool} (h : Ea K ta Γ [.bl a, .bl b]) : Ed K (tCall sp__law_says [] E ta) Γ (.bl (a == b)) := (eg_call (a, b) h trivial).toEd
theorem ed__law_boats {Γ : Gm} {E : XK} {ta : TA} {ws : List Int} {L m : Int} {bs : List (List Int)} (h : Ea K ta Γ [il ws, .int L, btl bs, .int m]) (hz : ws.length ≤ 500) : Ed K (tCall sp__law_boats [] E ta) Γ (.bl (Bp.showsF ws L bs m)) :=
  (eg_call (ws, L, bs, m) h hz).toEd
def sp__law_right (T : Tab K mg) : Sp := spG (α := List Int × Int × List (List Int) × Int) (fun a => [il a.1, .int a.2.1, btl a.2.2.1, .int a.2.2.2]) (fun a => a.2.2.1.flatten.length ≤ 500 ∧ a.2.2.1.length ≤ 500 ∧ a.1.length ≤ 500) (fun a r => r = .bl true)
theorem ok__law_right (T : Tab K mg) : FnOk P w K mg base CX0 4 T.f__law_right T.d__law_right ["_law_weights", "_law_limit_here", "_law_boats_here", "_law_mark"] (sp__law_right T) := by
  refine T.F__law_right.ok sc__law_right (fun vs H Q E h => ?_) (fun cdv A outer s H vs Q E hr h => ?_)
  · obtain ⟨a, S, _, da, _⟩ := h
    exact da.len
  · obtain ⟨⟨ws, L, bs, m⟩, S, inn, da, hp, q⟩ := h
    refine ⟨_, (pss_cons (ps_set (i := 4) sc__law_right.nd rfl (by first | exact Or.inl rfl | exact Or.inr rfl) (pe_callTy cr_list (by rfl) T.z_list (by decide +kernel) (pa_cons (pv 2) pa_nil)))
      (pss_cons (ps_set (i := 5) sc__law_right.nd rfl (by first | exact Or.inl rfl | exact Or.inr rfl) (pe_make T.k_Boats (ok_Boatsinit T) (hr.mono (by decide)) (by rfl) T.g_Boats T.b_Boatsinit .nil pass0 (pa_cons (pv 4) (pa_cons (pv 3) pa_nil))))
      (pss_cons (ps_expr (pe_bm PySem.F.plainAttrs_list PySem.F.slot_list_append PySem.F.type_list_append mt_append (pv 4) (pa_cons (pe_tup (pa_cons pe_int pa_nil)) pa_nil)))
      (pss_cons (ps_if (PW.pt (pw_or (pt_cmpR (op_neD hr.units) (pe_fld (pv 5) rfl) (pv 2) (nomark _)) (pw_or1 (pt_cmpR op_ne (pe_fld (pv 5) rfl) (pv 3) (nomark _))))) (pss_one (ps_ret pe_bl)) pss_nil)
      (pss_one (ps_ret (pe_call (ok__law_says T) (hr.mono (by decide)) (by rfl) T.g__law_says T.F__law_says.kp T.b__law_says .nil pass0 (pa_cons (pe_meth (pv 5) T.cl_Boats T.m_Boats_shows (ok_Boats_shows T) (hr.mono (by decide)) T.b_Boats_shows .nil pass0 (pa_cons (pv 0) (pa_cons (pv 1) pa_nil))) (pa_cons (pe_call (ok__law_boats T) (hr.mono (by decide)) (by rfl) T.g__law_boats T.F__law_boats.kp T.b__law_boats .nil pass0 (pa_cons (pv 0) (pa_cons (pv 1) (pa_cons (pv 2) (pa_cons (pv 3) pa_nil))))) pa_nil))))))))), run_defP (K := K) (E := E) (Xc := fun _ => False) inn da ?_ q (fun _ _ z => z.elim)⟩
    try simp only [kN, kC]
    have hz : bs.flatten.length ≤ 500 ∧ bs.length ≤ 500 ∧ ws.length ≤ 500 := hp
    refine sq_own (ds := bs.map itup) (en_listL (ed_var rfl)) (by show 4 < 6; decide) ?_
    refine sq_set (ed_makeOwn (ds := bs.map itup) rfl (ed_var rfl)) (fun x hx => by cases hx; show 4 ≠ 5; decide) ?_
    refine sg_seq (N1 := fun G => G = _) (sg_app (d := itup [0]) rfl (ed_tup (ea_cons ed_int ea_nil) (by show 1 ≤ 1000; decide)) (by rw [List.length_map]; omega) rfl) ?_
    rintro G rfl
    refine sq_when (b := false) ((et_or (et_T (ed_neB (xs := bs) (ys := bs) (ed_fldB (ed_var rfl) T.cl_Boats T.n_Boats_boats) (ed_var rfl))) fun _ => et_T (ed_nei (ed_fldM (ed_var rfl) T.cl_Boats T.n_Boats_mark) (ed_var rfl))).is (by simp)) (fun z => nomatch z) (fun _ => ?_)
    refine sg_ret ((ed__law_says (ea_cons (ed_shB T (bs := bs) (ed_var rfl) (ea_cons (ed_var rfl) (ea_cons (ed_var rfl) ea_nil)) hz) (ea_cons (ed__law_boats (ea_cons (ed_var rfl) (ea_cons (ed_var rfl) (ea_cons (ed_var rfl) (ea_cons (ed_var rfl) ea_nil)))) hz.2.2) ea_nil))).is (by simp)) rfl
end

section
variable {P : Program} {w : World} {K : PySem.W.Frag} {mg : Str → Option Value} {base : Heap}
def sp__law_promises_right (T : Tab K mg) : Sp := spG (α := Unit) (fun _ => []) (fun _ => True) (fun _ r => r = .bl true)
def emb1 (c : Bp.C1) : D := .tup [btl c.1, .int c.2.1, il c.2.2.1, .int c.2.2.2.1, .bl c.2.2.2.2]
def emb2 (c : Bp.C2) : D := .tup [.int c.1, il c.2.1, .int c.2.2.1, .bl c.2.2.2]
def emb3 (c : Bp.C3) : D := .tup [il c.1, .int c.2.1, .int c.2.2]
def emb4 (c : Bp.C4) : D := .tup [il c.1, .int c.2]
theorem ed_pow30 {Γ : Gm} {ta tb : TE} (ha : Ed K ta Γ (.int 10)) (hb : Ed K tb Γ (.int 30)) : Ed K (tOp (rI CPow fun i j => .int (i ^ j.toNat)) ta tb) Γ (.int Bp.P30) := (ed_IC ha hb ⟨by decide, by decide, by decide⟩).is (congrArg D.int (by decide +kernel))
theorem ed_waysP (T : Tab K mg) {Γ : Gm} {E : XK} {ta : TA} {ws : List Int} {L : Int} (h : Ea K ta Γ [il ws, .int L]) (hz : ws.length ≤ 500 ∧ (∀ w ∈ ws, 1 ≤ w) ∧ 0 ≤ L) : Ed K (tCall (sp_ways T) [] E ta) Γ (.int (Bp.wayF ws L)) := (eg_callX (ws, L) h ⟨⟨hz.1, hz.2.1⟩, hz.2.2⟩).toEd
theorem ed_leastP (T : Tab K mg) {Γ : Gm} {E : XK} {ta : TA} {ws : List Int} {b : Int} (h : Ea K ta Γ [il ws, .int b]) (hz : ws.length ≤ 500 ∧ (∀ w ∈ ws, 1 ≤ w) ∧ (ws.length : Int) ≤ 2 * b) : Ed K (tCall (sp_least_limit T) [] E ta) Γ (.int (Bp.lstF ws b)) := (eg_callX (ws, b) h ⟨⟨hz.1, hz.2.1⟩, hz.2.2⟩).toEd
/-- what is told where nobody is too heavy -/
theorem eg_toldP (T : Tab K mg) {Γ : Gm} {E : XK} {ta : TA} {ws : List Int} {L : Int} (h : Ea K ta Γ [il ws, .int L]) (hz : ws.length ≤ 200 ∧ (∀ w ∈ ws, 1 ≤ w) ∧ 0 ≤ L) (hL : ∀ w ∈ ws, w ≤ L) :
    Eg K (tCall (sp_told T) [] E ta) Γ fun d => ∃ bs m, d = .bts T.c_Boats (btl bs) (.int m) ∧ Bp.Good ws L bs ∧ Bp.okm L m ∧ Bp.bnd ws L m = (bs.length : Int) := by
  refine Eg.imp (eg_callN (ws, L) h hz) ?_
  rintro d (⟨p, rfl, hv⟩ | ⟨C, ds, m, ⟨rfl, bs, rfl, g, hm, hb, _⟩, rfl⟩)
  · exact (Bp.heavy_not hv hL).elim
  · exact ⟨bs, m, rfl, g, hm, hb⟩
/-- what is told where somebody is -/
theorem eg_toldH (T : Tab K mg) {Γ : Gm} {E : XK} {ta : TA} {ws : List Int} {L : Int} (h : Ea K ta Γ [il ws, .int L]) (hz : ws.length ≤ 200 ∧ (∀ w ∈ ws, 1 ≤ w) ∧ 0 ≤ L) (w : Int) (hw : w ∈ ws) (hl : L < w) :
    Eg K (tCall (sp_told T) [] E ta) Γ fun d => ∃ p, d = .hvy T.c_Heavy p := by
  refine Eg.imp (eg_callN (ws, L) h hz) ?_
  rintro d (⟨p, rfl, hv⟩ | ⟨C, ds, m, ⟨rfl, bs, rfl, g, hm, hb, hle⟩, rfl⟩)
  · exact ⟨_, rfl⟩
  · have h1 : w ≤ L := hle w hw
    omega
theorem ok__law_promises_right (T : Tab K mg) : FnOk P w K mg base CX0 5 T.f__law_promises_right T.d__law_promises_right [] (sp__law_promises_right T) := by
  refine T.F__law_promises_right.ok sc__law_promises_right (fun vs H Q E h => ?_) (fun cdv A outer s H vs Q E hr h => ?_)
  · obtain ⟨a, S, _, da, _⟩ := h
    exact da.len
  · obtain ⟨⟨⟩, S, inn, da, hp, q⟩ := h
    refine ⟨_, (pss_cons (ps_set (i := 0) sc__law_promises_right.nd rfl (by first | exact Or.inl rfl | exact Or.inr rfl) (pe_op op_pow pe_int pe_int))
      (pss_cons (ps_set (i := 1) sc__law_promises_right.nd rfl (by first | exact Or.inl rfl | exact Or.inr rfl) (pe_lst (pa_cons (pe_tup (pa_cons (pe_lst pa_nil) (pa_cons pe_int (pa_cons (pe_lst pa_nil) (pa_cons pe_int (pa_cons pe_bl pa_nil)))))) (pa_cons (pe_tup (pa_cons (pe_lst (pa_cons (pe_tup (pa_cons pe_int pa_nil)) pa_nil)) (pa_cons pe_int (pa_cons (pe_lst (pa_cons pe_int pa_nil)) (pa_cons pe_int (pa_cons pe_bl pa_nil)))))) (pa_cons (pe_tup (pa_cons (pe_lst (pa_cons (pe_tup (pa_cons pe_int pa_nil)) pa_nil)) (pa_cons pe_int (pa_cons (pe_lst (pa_cons pe_int pa_nil)) (pa_cons pe_int (pa_cons pe_bl pa_nil)))))) pa_nil)))))
      (pss_cons (ps_set (i := 1) sc__law_promises_right.nd rfl (by first | exact Or.inl rfl | exact Or.inr rfl) (pe_op op_cat (pv 1) (pe_lst (pa_cons (pe_tup (pa_cons (pe_lst (pa_cons (pe_tup (pa_cons pe_int pa_nil)) pa_nil)) (pa_cons pe_int (pa_cons (pe_lst (pa_cons pe_int pa_nil)) (pa_cons pe_int (pa_cons pe_bl pa_nil)))))) (pa_cons (pe_tup (pa_cons (pe_lst (pa_cons (pe_tup (pa_cons pe_int pa_nil)) pa_nil)) (pa_cons (pe_un un_neg pe_int) (pa_cons (pe_lst (pa_cons pe_int pa_nil)) (pa_cons pe_int (pa_cons pe_bl pa_nil)))))) (pa_cons (pe_tup (pa_cons (pe_lst (pa_cons (pe_tup (pa_cons pe_int (pa_cons pe_int pa_nil))) pa_nil)) (pa_cons pe_int (pa_cons (pe_lst (pa_cons pe_int (pa_cons pe_int pa_nil))) (pa_cons pe_int (pa_cons pe_bl pa_nil)))))) pa_nil))))))
      (pss_cons (ps_set (i := 1) sc__law_promises_right.nd rfl (by first | exact Or.inl rfl | exact Or.inr rfl) (pe_op op_cat (pv 1) (pe_lst (pa_cons (pe_tup (pa_cons (pe_lst (pa_cons (pe_tup (pa_cons pe_int pa_nil)) (pa_cons (pe_tup (pa_cons pe_int pa_nil)) pa_nil))) (pa_cons pe_int (pa_cons (pe_lst (pa_cons pe_int (pa_cons pe_int pa_nil))) (pa_cons pe_int (pa_cons pe_bl pa_nil)))))) (pa_cons (pe_tup (pa_cons (pe_lst (pa_cons (pe_tup (pa_cons pe_int (pa_cons pe_int pa_nil))) pa_nil)) (pa_cons pe_int (pa_cons (pe_lst (pa_cons pe_int (pa_cons pe_int pa_nil))) (pa_cons pe_int (pa_cons pe_bl pa_nil)))))) pa_nil)))))
      (pss_cons (ps_set (i := 1) sc__law_promises_right.nd rfl (by first | exact Or.inl rfl | exact Or.inr rfl) (pe_op op_cat (pv 1) (pe_lst (pa_cons (pe_tup (pa_cons (pe_lst (pa_cons (pe_tup (pa_cons pe_int (pa_cons pe_int pa_nil))) (pa_cons (pe_tup (pa_cons pe_int pa_nil)) pa_nil))) (pa_cons pe_int (pa_cons (pe_lst (pa_cons pe_int (pa_cons pe_int pa_nil))) (pa_cons pe_int (pa_cons pe_bl pa_nil)))))) (pa_cons (pe_tup (pa_cons (pe_lst (pa_cons (pe_tup (pa_cons pe_int pa_nil)) pa_nil)) (pa_cons pe_int (pa_cons (pe_lst (pa_cons pe_int (pa_cons pe_int pa_nil))) (pa_cons pe_int (pa_cons pe_bl pa_nil)))))) pa_nil)))))
      (pss_cons (ps_set (i := 1) sc__law_promises_right.nd rfl (by first | exact Or.inl rfl | exact Or.inr rfl) (pe_op op_cat (pv 1) (pe_lst (pa_cons (pe_tup (pa_cons (pe_lst (pa_cons (pe_tup (pa_cons pe_int (pa_cons pe_int pa_nil))) (pa_cons (pe_tup (pa_cons pe_int pa_nil)) pa_nil))) (pa_cons pe_int (pa_cons (pe_lst (pa_cons pe_int (pa_cons pe_int (pa_cons pe_int pa_nil)))) (pa_cons pe_int (pa_cons pe_bl pa_nil)))))) (pa_cons (pe_tup (pa_cons (pe_lst (pa_cons (pe_tup (pa_cons pe_int (pa_cons pe_int (pa_cons pe_int pa_nil)))) pa_nil)) (pa_cons pe_int (pa_cons (pe_lst (pa_cons pe_int (pa_cons pe_int (pa_cons pe_int pa_nil)))) (pa_cons pe_int (pa_cons pe_bl pa_nil)))))) pa_nil)))))
      (pss_cons (ps_set (i := 1) sc__law_promises_right.nd rfl (by first | exact Or.inl rfl | exact Or.inr rfl) (pe_op op_cat (pv 1) (pe_lst (pa_cons (pe_tup (pa_cons (pe_lst (pa_cons (pe_tup (pa_cons pe_int pa_nil)) (pa_cons (pe_tup (pa_cons pe_int pa_nil)) pa_nil))) (pa_cons pe_int (pa_cons (pe_lst (pa_cons pe_int (pa_cons pe_int pa_nil))) (pa_cons pe_int (pa_cons pe_bl pa_nil)))))) (pa_cons (pe_tup (pa_cons (pe_lst (pa_cons (pe_tup (pa_cons pe_int pa_nil)) (pa_cons (pe_tup (pa_cons pe_int pa_nil)) pa_nil))) (pa_cons pe_int (pa_cons (pe_lst (pa_cons pe_int (pa_cons pe_int pa_nil))) (pa_cons pe_int (pa_cons pe_bl pa_nil)))))) pa_nil)))))
      (pss_cons (ps_set (i := 1) sc__law_promises_right.nd rfl (by first | exact Or.inl rfl | exact Or.inr rfl) (pe_op op_cat (pv 1) (pe_lst (pa_cons (pe_tup (pa_cons (pe_lst (pa_cons (pe_tup (pa_cons pe_int (pa_cons pe_int pa_nil))) pa_nil)) (pa_cons pe_int (pa_cons (pe_lst (pa_cons pe_int pa_nil)) (pa_cons pe_int (pa_cons pe_bl pa_nil)))))) (pa_cons (pe_tup (pa_cons (pe_lst (pa_cons (pe_tup pa_nil) pa_nil)) (pa_cons pe_int (pa_cons (pe_lst pa_nil) (pa_cons pe_int (pa_cons pe_bl pa_nil)))))) (pa_cons (pe_tup (pa_cons (pe_lst (pa_cons (pe_tup (pa_cons pe_int (pa_cons pe_int pa_nil))) pa_nil)) (pa_cons pe_int (pa_cons (pe_lst (pa_cons pe_int (pa_cons pe_int pa_nil))) (pa_cons pe_int (pa_cons pe_bl pa_nil)))))) pa_nil))))))
      (pss_cons (ps_set (i := 1) sc__law_promises_right.nd rfl (by first | exact Or.inl rfl | exact Or.inr rfl) (pe_op op_cat (pv 1) (pe_lst (pa_cons (pe_tup (pa_cons (pe_lst (pa_cons (pe_tup (pa_cons pe_int pa_nil)) (pa_cons (pe_tup (pa_cons pe_int (pa_cons pe_int pa_nil))) pa_nil))) (pa_cons pe_int (pa_cons (pe_lst (pa_cons pe_int (pa_cons pe_int (pa_cons pe_int pa_nil)))) (pa_cons pe_int (pa_cons pe_bl pa_nil)))))) pa_nil))))
      (pss_cons (ps_for PassesOwn.never rfl (pi_list (pv 1)) (pg_tup rfl (pgs_cons (pg_name (i := 2) sc__law_promises_right.nd rfl (by first | exact Or.inl rfl | exact Or.inr rfl)) (pgs_cons (pg_name (i := 3) sc__law_promises_right.nd rfl (by first | exact Or.inl rfl | exact Or.inr rfl)) (pgs_cons (pg_name (i := 4) sc__law_promises_right.nd rfl (by first | exact Or.inl rfl | exact Or.inr rfl)) (pgs_cons (pg_name (i := 5) sc__law_promises_right.nd rfl (by first | exact Or.inl rfl | exact Or.inr rfl)) (pgs_cons (pg_name (i := 6) sc__law_promises_right.nd rfl (by first | exact Or.inl rfl | exact Or.inr rfl)) pgs_nil))))))
        (pss_one (ps_if (pt_cmpR op_ne (pe_meth (pe_make T.k_Boats (ok_Boatsinit T) (hr.mono (by decide)) (by rfl) T.g_Boats T.b_Boatsinit .nil pass0 (pa_cons (pv 2) (pa_cons (pv 3) pa_nil))) T.cl_Boats T.m_Boats_shows (ok_Boats_shows T) (hr.mono (by decide)) T.b_Boats_shows .nil pass0 (pa_cons (pv 4) (pa_cons (pv 5) pa_nil))) (pv 6) (nomark _)) (pss_one (ps_ret pe_bl)) pss_nil)))
      (pss_cons (ps_set (i := 1) sc__law_promises_right.nd rfl (by first | exact Or.inl rfl | exact Or.inr rfl) (pe_lst (pa_cons (pe_tup (pa_cons pe_int (pa_cons (pe_lst (pa_cons pe_int pa_nil)) (pa_cons pe_int (pa_cons pe_bl pa_nil))))) (pa_cons (pe_tup (pa_cons pe_int (pa_cons (pe_lst (pa_cons pe_int pa_nil)) (pa_cons pe_int (pa_cons pe_bl pa_nil))))) (pa_cons (pe_tup (pa_cons pe_int (pa_cons (pe_lst (pa_cons pe_int pa_nil)) (pa_cons pe_int (pa_cons pe_bl pa_nil))))) (pa_cons (pe_tup (pa_cons (pe_un un_neg pe_int) (pa_cons (pe_lst (pa_cons pe_int pa_nil)) (pa_cons pe_int (pa_cons pe_bl pa_nil))))) pa_nil))))))
      (pss_cons (ps_set (i := 1) sc__law_promises_right.nd rfl (by first | exact Or.inl rfl | exact Or.inr rfl) (pe_op op_cat (pv 1) (pe_lst (pa_cons (pe_tup (pa_cons pe_int (pa_cons (pe_lst (pa_cons pe_int (pa_cons (pv 0) pa_nil))) (pa_cons pe_int (pa_cons pe_bl pa_nil))))) (pa_cons (pe_tup (pa_cons pe_int (pa_cons (pe_lst (pa_cons pe_int (pa_cons (pv 0) pa_nil))) (pa_cons pe_int (pa_cons pe_bl pa_nil))))) pa_nil)))))
      (pss_cons (ps_for PassesOwn.never rfl (pi_list (pv 1)) (pg_tup rfl (pgs_cons (pg_name (i := 7) sc__law_promises_right.nd rfl (by first | exact Or.inl rfl | exact Or.inr rfl)) (pgs_cons (pg_name (i := 4) sc__law_promises_right.nd rfl (by first | exact Or.inl rfl | exact Or.inr rfl)) (pgs_cons (pg_name (i := 5) sc__law_promises_right.nd rfl (by first | exact Or.inl rfl | exact Or.inr rfl)) (pgs_cons (pg_name (i := 6) sc__law_promises_right.nd rfl (by first | exact Or.inl rfl | exact Or.inr rfl)) pgs_nil)))))
        (pss_one (ps_if (pt_cmpR op_ne (pe_meth (pe_make T.k_Heavy (ok_Heavyinit T) (hr.mono (by decide)) (by rfl) T.g_Heavy T.b_Heavyinit .nil pass0 (pa_cons (pv 7) pa_nil)) T.cl_Heavy T.m_Heavy_shows (ok_Heavy_shows T) (hr.mono (by decide)) T.b_Heavy_shows .nil pass0 (pa_cons (pv 4) (pa_cons (pv 5) pa_nil))) (pv 6) (nomark _)) (pss_one (ps_ret pe_bl)) pss_nil)))
      (pss_cons (ps_set (i := 1) sc__law_promises_right.nd rfl (by first | exact Or.inl rfl | exact Or.inr rfl) (pe_lst (pa_cons (pe_tup (pa_cons (pe_lst pa_nil) (pa_cons pe_int (pa_cons pe_int pa_nil)))) (pa_cons (pe_tup (pa_cons (pe_lst (pa_cons pe_int pa_nil)) (pa_cons pe_int (pa_cons pe_int pa_nil)))) (pa_cons (pe_tup (pa_cons (pe_lst (pa_cons pe_int (pa_cons pe_int pa_nil))) (pa_cons pe_int (pa_cons pe_int pa_nil)))) (pa_cons (pe_tup (pa_cons (pe_lst (pa_cons pe_int (pa_cons pe_int (pa_cons pe_int pa_nil)))) (pa_cons pe_int (pa_cons pe_int pa_nil)))) (pa_cons (pe_tup (pa_cons (pe_lst (pa_cons pe_int (pa_cons pe_int (pa_cons pe_int (pa_cons pe_int pa_nil))))) (pa_cons pe_int (pa_cons pe_int pa_nil)))) pa_nil)))))))
      (pss_cons (ps_set (i := 1) sc__law_promises_right.nd rfl (by first | exact Or.inl rfl | exact Or.inr rfl) (pe_op op_cat (pv 1) (pe_lst (pa_cons (pe_tup (pa_cons (pe_op op_rep (pe_lst (pa_cons (pv 0) pa_nil)) pe_int) (pa_cons (pv 0) (pa_cons pe_int pa_nil)))) (pa_cons (pe_tup (pa_cons (pe_op op_rep (pe_lst (pa_cons pe_int pa_nil)) pe_int) (pa_cons pe_int (pa_cons pe_int pa_nil)))) (pa_cons (pe_tup (pa_cons (pe_lst (pa_cons pe_int (pa_cons pe_int (pa_cons pe_int (pa_cons pe_int pa_nil))))) (pa_cons pe_int (pa_cons pe_int pa_nil)))) pa_nil))))))
      (pss_cons (ps_for PassesOwn.never rfl (pi_list (pv 1)) (pg_tup rfl (pgs_cons (pg_name (i := 4) sc__law_promises_right.nd rfl (by first | exact Or.inl rfl | exact Or.inr rfl)) (pgs_cons (pg_name (i := 5) sc__law_promises_right.nd rfl (by first | exact Or.inl rfl | exact Or.inr rfl)) (pgs_cons (pg_name (i := 8) sc__law_promises_right.nd rfl (by first | exact Or.inl rfl | exact Or.inr rfl)) pgs_nil))))
        (pss_cons (ps_set (i := 9) sc__law_promises_right.nd rfl (by first | exact Or.inl rfl | exact Or.inr rfl) (pe_call (ok_told T) (hr.mono (by decide)) (by rfl) T.g_told T.F_told.kp T.b_told .nil passL (pa_cons (pv 4) (pa_cons (pv 5) pa_nil))))
      (pss_one (ps_if (PW.pt (pw_or (pt_not (pt_val (pe_callB (isI (K := K)) (by rfl) T.z_isinstance (by decide +kernel) (pa_cons (pv 9) (pa_cons (pe_glob (v := .ref T.c_Boats) (by rfl) T.g_Boats rfl) pa_nil))))) (pw_or (pt_cmpR op_ne (pe_callB (crLen (K := K)) (by rfl) T.z_len (by decide +kernel) (pa_cons (pe_fld (pv 9) rfl) pa_nil)) (pv 8) (nomark _)) (pw_or1 (pt_not (pt_val (pe_meth (pv 9) T.cl_Boats T.m_Boats_shows (ok_Boats_shows T) (hr.mono (by decide)) T.b_Boats_shows .nil pass0 (pa_cons (pv 4) (pa_cons (pv 5) pa_nil))))))))) (pss_one (ps_ret pe_bl)) pss_nil))))
      (pss_cons (ps_if (PW.pt (pw_or (pt_not (pt_val (pe_callB (isI (K := K)) (by rfl) T.z_isinstance (by decide +kernel) (pa_cons (pe_call (ok_told T) (hr.mono (by decide)) (by rfl) T.g_told T.F_told.kp T.b_told .nil passL (pa_cons (pe_lst (pa_cons pe_int pa_nil)) (pa_cons pe_int pa_nil))) (pa_cons (pe_glob (v := .ref T.c_Heavy) (by rfl) T.g_Heavy rfl) pa_nil))))) (pw_or1 (pt_not (pt_val (pe_callB (isI (K := K)) (by rfl) T.z_isinstance (by decide +kernel) (pa_cons (pe_call (ok_told T) (hr.mono (by decide)) (by rfl) T.g_told T.F_told.kp T.b_told .nil passL (pa_cons (pe_lst (pa_cons pe_int pa_nil)) (pa_cons pe_int pa_nil))) (pa_cons (pe_glob (v := .ref T.c_Heavy) (by rfl) T.g_Heavy rfl) pa_nil)))))))) (pss_one (ps_ret pe_bl)) pss_nil)
      (pss_cons (ps_set (i := 10) sc__law_promises_right.nd rfl (by first | exact Or.inl rfl | exact Or.inr rfl) (pe_lst (pa_cons (pe_tup (pa_cons (pe_lst pa_nil) (pa_cons pe_int pa_nil))) (pa_cons (pe_tup (pa_cons (pe_lst (pa_cons pe_int pa_nil)) (pa_cons pe_int pa_nil))) (pa_cons (pe_tup (pa_cons (pe_lst (pa_cons pe_int (pa_cons pe_int pa_nil))) (pa_cons pe_int pa_nil))) (pa_cons (pe_tup (pa_cons (pe_lst (pa_cons pe_int (pa_cons pe_int (pa_cons pe_int (pa_cons pe_int pa_nil))))) (pa_cons pe_int pa_nil))) (pa_cons (pe_tup (pa_cons (pe_lst (pa_cons pe_int (pa_cons pe_int pa_nil))) (pa_cons pe_int pa_nil))) pa_nil)))))))
      (pss_cons (ps_set (i := 10) sc__law_promises_right.nd rfl (by first | exact Or.inl rfl | exact Or.inr rfl) (pe_op op_cat (pv 10) (pe_lst (pa_cons (pe_tup (pa_cons (pe_op op_rep (pe_lst (pa_cons (pv 0) pa_nil)) pe_int) (pa_cons (pe_op op_mul pe_int (pv 0)) pa_nil))) (pa_cons (pe_tup (pa_cons (pe_op op_rep (pe_lst (pa_cons pe_int pa_nil)) pe_int) (pa_cons pe_int pa_nil))) (pa_cons (pe_tup (pa_cons (pe_lst (pa_cons pe_int (pa_cons pe_int (pa_cons pe_int (pa_cons pe_int pa_nil))))) (pa_cons pe_int pa_nil))) (pa_cons (pe_tup (pa_cons (pe_lst (pa_cons pe_int (pa_cons pe_int (pa_cons pe_int (pa_cons pe_int pa_nil))))) (pa_cons pe_int pa_nil))) pa_nil)))))))
      (pss_cons (ps_if (pt_cmpR (op_neD hr.units) (pe_lc (own := [("_law_weights", 4), ("_law_limit_here", 5)]) (g := gTup K 2 (gCons (gName 4) (gCons (gName 5) gNil))) (by rfl) sc__law_promises_right.nd (pi_list (pv 10)) (blkOk_by (own := [("_law_weights", 4), ("_law_limit_here", 5)]) (N := ["_law_great", "_law_cases", "_law_boats_here", "_law_mark", "_law_weights", "_law_limit_here", "_law_due", "_law_person", "_law_many", "_law_found", "_law_pairs", "_law_asked"]) (sc := defScope s__law_promises_right) (by decide +kernel)) (fun _ _ _ _ _ => (pg_tup rfl (pgs_cons (pg_name (i := 4) sc__law_promises_right.nd rfl (by first | exact Or.inl rfl | exact Or.inr rfl)) (pgs_cons (pg_name (i := 5) sc__law_promises_right.nd rfl (by first | exact Or.inl rfl | exact Or.inr rfl)) pgs_nil)))) (fun _ _ _ _ _ => (pts_nil)) (fun _ _ _ _ _ => (pe_call (ok_ways T) (hr.mono (by decide)) (by rfl) T.g_ways T.F_ways.kp T.b_ways .nil passL (pa_cons (pv 4) (pa_cons (pv 5) pa_nil))))) (pe_lst (pa_cons pe_int (pa_cons pe_int (pa_cons pe_int (pa_cons pe_int (pa_cons pe_int (pa_cons pe_int (pa_cons pe_int (pa_cons pe_int (pa_cons pe_int pa_nil)))))))))) (nomark _)) (pss_one (ps_ret pe_bl)) pss_nil)
      (pss_cons (ps_set (i := 11) sc__law_promises_right.nd rfl (by first | exact Or.inl rfl | exact Or.inr rfl) (pe_lst (pa_cons (pe_tup (pa_cons (pe_lst pa_nil) (pa_cons pe_int pa_nil))) (pa_cons (pe_tup (pa_cons (pe_lst (pa_cons pe_int (pa_cons pe_int pa_nil))) (pa_cons pe_int pa_nil))) (pa_cons (pe_tup (pa_cons (pe_lst (pa_cons pe_int (pa_cons pe_int pa_nil))) (pa_cons pe_int pa_nil))) (pa_cons (pe_tup (pa_cons (pe_lst (pa_cons pe_int (pa_cons pe_int (pa_cons pe_int (pa_cons pe_int pa_nil))))) (pa_cons pe_int pa_nil))) (pa_cons (pe_tup (pa_cons (pe_lst (pa_cons pe_int pa_nil)) (pa_cons pe_int pa_nil))) (pa_cons (pe_tup (pa_cons (pe_lst (pa_cons (pv 0) (pa_cons pe_int pa_nil))) (pa_cons pe_int pa_nil))) pa_nil))))))))
      (pss_cons (ps_set (i := 11) sc__law_promises_right.nd rfl (by first | exact Or.inl rfl | exact Or.inr rfl) (pe_op op_cat (pv 11) (pe_lst (pa_cons (pe_tup (pa_cons (pe_lst (pa_cons pe_int (pa_cons pe_int (pa_cons pe_int (pa_cons pe_int pa_nil))))) (pa_cons pe_int pa_nil))) (pa_cons (pe_tup (pa_cons (pe_lst (pa_cons pe_int (pa_cons pe_int (pa_cons pe_int pa_nil)))) (pa_cons pe_int pa_nil))) pa_nil)))))
      (pss_one (ps_ret (pe_cmpR (op_eqD hr.units) (pe_lc (own := [("_law_weights", 4), ("_law_boats_here", 2)]) (g := gTup K 2 (gCons (gName 4) (gCons (gName 2) gNil))) (by rfl) sc__law_promises_right.nd (pi_list (pv 11)) (blkOk_by (own := [("_law_weights", 4), ("_law_boats_here", 2)]) (N := ["_law_great", "_law_cases", "_law_boats_here", "_law_mark", "_law_weights", "_law_limit_here", "_law_due", "_law_person", "_law_many", "_law_found", "_law_pairs", "_law_asked"]) (sc := defScope s__law_promises_right) (by decide +kernel)) (fun _ _ _ _ _ => (pg_tup rfl (pgs_cons (pg_name (i := 4) sc__law_promises_right.nd rfl (by first | exact Or.inl rfl | exact Or.inr rfl)) (pgs_cons (pg_name (i := 2) sc__law_promises_right.nd rfl (by first | exact Or.inl rfl | exact Or.inr rfl)) pgs_nil)))) (fun _ _ _ _ _ => (pts_nil)) (fun _ _ _ _ _ => (pe_call (ok_least_limit T) (hr.mono (by decide)) (by rfl) T.g_least_limit T.F_least_limit.kp T.b_least_limit .nil passL (pa_cons (pv 4) (pa_cons (pv 2) pa_nil))))) (pe_lst (pa_cons pe_int (pa_cons pe_int (pa_cons pe_int (pa_cons pe_int (pa_cons pe_int (pa_cons (pe_op op_add (pv 0) pe_int) (pa_cons pe_int (pa_cons pe_int pa_nil))))))))) (nomark _)))))))))))))))))))))))))), run_defP (K := K) (E := E) (Xc := fun _ => False) inn da ?_ q (fun _ _ z => z.elim)⟩
    try simp only [kN, kC]
    refine sq_set (ed_pow30 ed_int ed_int) nw ?_
    refine sq_set (d := .lst ((Bp.c1.take 3).map emb1)) (En.toEd (en_lst (ea_cons (ed_tup (ea_cons (En.toEd (en_lst ea_nil (by show 0 ≤ 1000; decide))) (ea_cons ed_int (ea_cons (En.toEd (en_lst ea_nil (by show 0 ≤ 1000; decide))) (ea_cons ed_int (ea_cons ed_bl ea_nil))))) (by show 5 ≤ 1000; decide)) (ea_cons (ed_tup (ea_cons (En.toEd (en_lst (ea_cons (ed_tup (ea_cons ed_int ea_nil) (by show 1 ≤ 1000; decide)) ea_nil) (by show 1 ≤ 1000; decide))) (ea_cons ed_int (ea_cons (En.toEd (en_lst (ea_cons ed_int ea_nil) (by show 1 ≤ 1000; decide))) (ea_cons ed_int (ea_cons ed_bl ea_nil))))) (by show 5 ≤ 1000; decide)) (ea_cons (ed_tup (ea_cons (En.toEd (en_lst (ea_cons (ed_tup (ea_cons ed_int ea_nil) (by show 1 ≤ 1000; decide)) ea_nil) (by show 1 ≤ 1000; decide))) (ea_cons ed_int (ea_cons (En.toEd (en_lst (ea_cons ed_int ea_nil) (by show 1 ≤ 1000; decide))) (ea_cons ed_int (ea_cons ed_bl ea_nil))))) (by show 5 ≤ 1000; decide)) ea_nil))) (by show 3 ≤ 1000; decide))) nw ?_
    refine sq_set (d := .lst ((Bp.c1.take 6).map emb1)) ((En.toEd (en_cat (xs := (Bp.c1.take 3).map emb1) (ys := ((Bp.c1.drop 3).take 3).map emb1) (ed_var rfl) (En.toEd (en_lst (ea_cons (ed_tup (ea_cons (En.toEd (en_lst (ea_cons (ed_tup (ea_cons ed_int ea_nil) (by show 1 ≤ 1000; decide)) ea_nil) (by show 1 ≤ 1000; decide))) (ea_cons ed_int (ea_cons (En.toEd (en_lst (ea_cons ed_int ea_nil) (by show 1 ≤ 1000; decide))) (ea_cons ed_int (ea_cons ed_bl ea_nil))))) (by show 5 ≤ 1000; decide)) (ea_cons (ed_tup (ea_cons (En.toEd (en_lst (ea_cons (ed_tup (ea_cons ed_int ea_nil) (by show 1 ≤ 1000; decide)) ea_nil) (by show 1 ≤ 1000; decide))) (ea_cons (ed_neg ed_int) (ea_cons (En.toEd (en_lst (ea_cons ed_int ea_nil) (by show 1 ≤ 1000; decide))) (ea_cons ed_int (ea_cons ed_bl ea_nil))))) (by show 5 ≤ 1000; decide)) (ea_cons (ed_tup (ea_cons (En.toEd (en_lst (ea_cons (ed_tup (ea_cons ed_int (ea_cons ed_int ea_nil)) (by show 2 ≤ 1000; decide)) ea_nil) (by show 1 ≤ 1000; decide))) (ea_cons ed_int (ea_cons (En.toEd (en_lst (ea_cons ed_int (ea_cons ed_int ea_nil)) (by show 2 ≤ 1000; decide))) (ea_cons ed_int (ea_cons ed_bl ea_nil))))) (by show 5 ≤ 1000; decide)) ea_nil))) (by show 3 ≤ 1000; decide))) (by show 3 + 3 ≤ 1000; decide))).is rfl) nw ?_
    refine sq_set (d := .lst ((Bp.c1.take 8).map emb1)) ((En.toEd (en_cat (xs := (Bp.c1.take 6).map emb1) (ys := ((Bp.c1.drop 6).take 2).map emb1) (ed_var rfl) (En.toEd (en_lst (ea_cons (ed_tup (ea_cons (En.toEd (en_lst (ea_cons (ed_tup (ea_cons ed_int ea_nil) (by show 1 ≤ 1000; decide)) (ea_cons (ed_tup (ea_cons ed_int ea_nil) (by show 1 ≤ 1000; decide)) ea_nil)) (by show 2 ≤ 1000; decide))) (ea_cons ed_int (ea_cons (En.toEd (en_lst (ea_cons ed_int (ea_cons ed_int ea_nil)) (by show 2 ≤ 1000; decide))) (ea_cons ed_int (ea_cons ed_bl ea_nil))))) (by show 5 ≤ 1000; decide)) (ea_cons (ed_tup (ea_cons (En.toEd (en_lst (ea_cons (ed_tup (ea_cons ed_int (ea_cons ed_int ea_nil)) (by show 2 ≤ 1000; decide)) ea_nil) (by show 1 ≤ 1000; decide))) (ea_cons ed_int (ea_cons (En.toEd (en_lst (ea_cons ed_int (ea_cons ed_int ea_nil)) (by show 2 ≤ 1000; decide))) (ea_cons ed_int (ea_cons ed_bl ea_nil))))) (by show 5 ≤ 1000; decide)) ea_nil)) (by show 2 ≤ 1000; decide))) (by show 6 + 2 ≤ 1000; decide))).is rfl) nw ?_
    refine sq_set (d := .lst ((Bp.c1.take 10).map emb1)) ((En.toEd (en_cat (xs := (Bp.c1.take 8).map emb1) (ys := ((Bp.c1.drop 8).take 2).map emb1) (ed_var rfl) (En.toEd (en_lst (ea_cons (ed_tup (ea_cons (En.toEd (en_lst (ea_cons (ed_tup (ea_cons ed_int (ea_cons ed_int ea_nil)) (by show 2 ≤ 1000; decide)) (ea_cons (ed_tup (ea_cons ed_int ea_nil) (by show 1 ≤ 1000; decide)) ea_nil)) (by show 2 ≤ 1000; decide))) (ea_cons ed_int (ea_cons (En.toEd (en_lst (ea_cons ed_int (ea_cons ed_int ea_nil)) (by show 2 ≤ 1000; decide))) (ea_cons ed_int (ea_cons ed_bl ea_nil))))) (by show 5 ≤ 1000; decide)) (ea_cons (ed_tup (ea_cons (En.toEd (en_lst (ea_cons (ed_tup (ea_cons ed_int ea_nil) (by show 1 ≤ 1000; decide)) ea_nil) (by show 1 ≤ 1000; decide))) (ea_cons ed_int (ea_cons (En.toEd (en_lst (ea_cons ed_int (ea_cons ed_int ea_nil)) (by show 2 ≤ 1000; decide))) (ea_cons ed_int (ea_cons ed_bl ea_nil))))) (by show 5 ≤ 1000; decide)) ea_nil)) (by show 2 ≤ 1000; decide))) (by show 8 + 2 ≤ 1000; decide))).is rfl) nw ?_
    refine sq_set (d := .lst ((Bp.c1.take 12).map emb1)) ((En.toEd (en_cat (xs := (Bp.c1.take 10).map emb1) (ys := ((Bp.c1.drop 10).take 2).map emb1) (ed_var rfl) (En.toEd (en_lst (ea_cons (ed_tup (ea_cons (En.toEd (en_lst (ea_cons (ed_tup (ea_cons ed_int (ea_cons ed_int ea_nil)) (by show 2 ≤ 1000; decide)) (ea_cons (ed_tup (ea_cons ed_int ea_nil) (by show 1 ≤ 1000; decide)) ea_nil)) (by show 2 ≤ 1000; decide))) (ea_cons ed_int (ea_cons (En.toEd (en_lst (ea_cons ed_int (ea_cons ed_int (ea_cons ed_int ea_nil))) (by show 3 ≤ 1000; decide))) (ea_cons ed_int (ea_cons ed_bl ea_nil))))) (by show 5 ≤ 1000; decide)) (ea_cons (ed_tup (ea_cons (En.toEd (en_lst (ea_cons (ed_tup (ea_cons ed_int (ea_cons ed_int (ea_cons ed_int ea_nil))) (by show 3 ≤ 1000; decide)) ea_nil) (by show 1 ≤ 1000; decide))) (ea_cons ed_int (ea_cons (En.toEd (en_lst (ea_cons ed_int (ea_cons ed_int (ea_cons ed_int ea_nil))) (by show 3 ≤ 1000; decide))) (ea_cons ed_int (ea_cons ed_bl ea_nil))))) (by show 5 ≤ 1000; decide)) ea_nil)) (by show 2 ≤ 1000; decide))) (by show 10 + 2 ≤ 1000; decide))).is rfl) nw ?_
    refine sq_set (d := .lst ((Bp.c1.take 14).map emb1)) ((En.toEd (en_cat (xs := (Bp.c1.take 12).map emb1) (ys := ((Bp.c1.drop 12).take 2).map emb1) (ed_var rfl) (En.toEd (en_lst (ea_cons (ed_tup (ea_cons (En.toEd (en_lst (ea_cons (ed_tup (ea_cons ed_int ea_nil) (by show 1 ≤ 1000; decide)) (ea_cons (ed_tup (ea_cons ed_int ea_nil) (by show 1 ≤ 1000; decide)) ea_nil)) (by show 2 ≤ 1000; decide))) (ea_cons ed_int (ea_cons (En.toEd (en_lst (ea_cons ed_int (ea_cons ed_int ea_nil)) (by show 2 ≤ 1000; decide))) (ea_cons ed_int (ea_cons ed_bl ea_nil))))) (by show 5 ≤ 1000; decide)) (ea_cons (ed_tup (ea_cons (En.toEd (en_lst (ea_cons (ed_tup (ea_cons ed_int ea_nil) (by show 1 ≤ 1000; decide)) (ea_cons (ed_tup (ea_cons ed_int ea_nil) (by show 1 ≤ 1000; decide)) ea_nil)) (by show 2 ≤ 1000; decide))) (ea_cons ed_int (ea_cons (En.toEd (en_lst (ea_cons ed_int (ea_cons ed_int ea_nil)) (by show 2 ≤ 1000; decide))) (ea_cons ed_int (ea_cons ed_bl ea_nil))))) (by show 5 ≤ 1000; decide)) ea_nil)) (by show 2 ≤ 1000; decide))) (by show 12 + 2 ≤ 1000; decide))).is rfl) nw ?_
    refine sq_set (d := .lst ((Bp.c1.take 17).map emb1)) ((En.toEd (en_cat (xs := (Bp.c1.take 14).map emb1) (ys := ((Bp.c1.drop 14).take 3).map emb1) (ed_var rfl) (En.toEd (en_lst (ea_cons (ed_tup (ea_cons (En.toEd (en_lst (ea_cons (ed_tup (ea_cons ed_int (ea_cons ed_int ea_nil)) (by show 2 ≤ 1000; decide)) ea_nil) (by show 1 ≤ 1000; decide))) (ea_cons ed_int (ea_cons (En.toEd (en_lst (ea_cons ed_int ea_nil) (by show 1 ≤ 1000; decide))) (ea_cons ed_int (ea_cons ed_bl ea_nil))))) (by show 5 ≤ 1000; decide)) (ea_cons (ed_tup (ea_cons (En.toEd (en_lst (ea_cons (ed_tup ea_nil (by show 0 ≤ 1000; decide)) ea_nil) (by show 1 ≤ 1000; decide))) (ea_cons ed_int (ea_cons (En.toEd (en_lst ea_nil (by show 0 ≤ 1000; decide))) (ea_cons ed_int (ea_cons ed_bl ea_nil))))) (by show 5 ≤ 1000; decide)) (ea_cons (ed_tup (ea_cons (En.toEd (en_lst (ea_cons (ed_tup (ea_cons ed_int (ea_cons ed_int ea_nil)) (by show 2 ≤ 1000; decide)) ea_nil) (by show 1 ≤ 1000; decide))) (ea_cons ed_int (ea_cons (En.toEd (en_lst (ea_cons ed_int (ea_cons ed_int ea_nil)) (by show 2 ≤ 1000; decide))) (ea_cons ed_int (ea_cons ed_bl ea_nil))))) (by show 5 ≤ 1000; decide)) ea_nil))) (by show 3 ≤ 1000; decide))) (by show 14 + 3 ≤ 1000; decide))).is rfl) nw ?_
    refine sq_set (d := .lst ((Bp.c1.take 18).map emb1)) ((En.toEd (en_cat (xs := (Bp.c1.take 17).map emb1) (ys := ((Bp.c1.drop 17).take 1).map emb1) (ed_var rfl) (En.toEd (en_lst (ea_cons (ed_tup (ea_cons (En.toEd (en_lst (ea_cons (ed_tup (ea_cons ed_int ea_nil) (by show 1 ≤ 1000; decide)) (ea_cons (ed_tup (ea_cons ed_int (ea_cons ed_int ea_nil)) (by show 2 ≤ 1000; decide)) ea_nil)) (by show 2 ≤ 1000; decide))) (ea_cons ed_int (ea_cons (En.toEd (en_lst (ea_cons ed_int (ea_cons ed_int (ea_cons ed_int ea_nil))) (by show 3 ≤ 1000; decide))) (ea_cons ed_int (ea_cons ed_bl ea_nil))))) (by show 5 ≤ 1000; decide)) ea_nil) (by show 1 ≤ 1000; decide))) (by show 17 + 1 ≤ 1000; decide))).is rfl) nw ?_
    refine sg_seq (N1 := fun G => ∃ x2 x3 x4 x5 x6, G = ⟨[some (.v (.int Bp.P30)), some (.v (.lst ((Bp.c1.take 18).map emb1))), x2, x3, x4, x5, x6, none, none, none, none, none], none⟩) (sg_for (si_list (ds := Bp.c1.map emb1) (ed_var rfl)) (fun _ G => ∃ x2 x3 x4 x5 x6, G = ⟨[some (.v (.int Bp.P30)), some (.v (.lst ((Bp.c1.take 18).map emb1))), x2, x3, x4, x5, x6, none, none, none, none, none], none⟩) ⟨none, none, none, none, none, rfl⟩ ?_ fun G h => h) ?_
    · rintro i d G hd ⟨x2, x3, x4, x5, x6, rfl⟩
      rw [List.getElem?_map] at hd
      obtain ⟨c, hc, rfl⟩ := Option.map_eq_some_iff.mp hd
      have hm := List.mem_of_getElem? hc
      refine ⟨_, _, tg_many (js := [2, 3, 4, 5, 6]) (ds := [btl c.1, .int c.2.1, il c.2.2.1, .int c.2.2.2.1, .bl c.2.2.2.2]) rfl nw, ?_⟩
      refine sg_if (b := false) ((et_T (ed_neb (ed_shB T (bs := c.1) (m := c.2.1) (ed_makeB (ds := c.1.map itup) (ea_cons (ed_var rfl) (ea_cons (ed_var rfl) ea_nil))) (ea_cons (ed_var rfl) (ea_cons (ed_var rfl) ea_nil)) (Bp.c1_len c hm)) (ed_var rfl))).is ?_) (fun z => nomatch z) (fun _ => sg_next ⟨_, _, _, _, _, rfl⟩)
      rw [Bp.c1_ok c hm, bne_self_eq_false]
    rintro G ⟨x2, x3, x4, x5, x6, rfl⟩
    refine sq_set (d := .lst ((Bp.c2.take 4).map emb2)) (En.toEd (en_lst (ea_cons (ed_tup (ea_cons ed_int (ea_cons (En.toEd (en_lst (ea_cons ed_int ea_nil) (by show 1 ≤ 1000; decide))) (ea_cons ed_int (ea_cons ed_bl ea_nil)))) (by show 4 ≤ 1000; decide)) (ea_cons (ed_tup (ea_cons ed_int (ea_cons (En.toEd (en_lst (ea_cons ed_int ea_nil) (by show 1 ≤ 1000; decide))) (ea_cons ed_int (ea_cons ed_bl ea_nil)))) (by show 4 ≤ 1000; decide)) (ea_cons (ed_tup (ea_cons ed_int (ea_cons (En.toEd (en_lst (ea_cons ed_int ea_nil) (by show 1 ≤ 1000; decide))) (ea_cons ed_int (ea_cons ed_bl ea_nil)))) (by show 4 ≤ 1000; decide)) (ea_cons (ed_tup (ea_cons (ed_neg ed_int) (ea_cons (En.toEd (en_lst (ea_cons ed_int ea_nil) (by show 1 ≤ 1000; decide))) (ea_cons ed_int (ea_cons ed_bl ea_nil)))) (by show 4 ≤ 1000; decide)) ea_nil)))) (by show 4 ≤ 1000; decide))) nw ?_
    refine sq_set (d := .lst ((Bp.c2.take 6).map emb2)) ((En.toEd (en_cat (xs := (Bp.c2.take 4).map emb2) (ys := ((Bp.c2.drop 4).take 2).map emb2) (ed_var rfl) (En.toEd (en_lst (ea_cons (ed_tup (ea_cons ed_int (ea_cons (En.toEd (en_lst (ea_cons ed_int (ea_cons (ed_var rfl) ea_nil)) (by show 2 ≤ 1000; decide))) (ea_cons ed_int (ea_cons ed_bl ea_nil)))) (by show 4 ≤ 1000; decide)) (ea_cons (ed_tup (ea_cons ed_int (ea_cons (En.toEd (en_lst (ea_cons ed_int (ea_cons (ed_var rfl) ea_nil)) (by show 2 ≤ 1000; decide))) (ea_cons ed_int (ea_cons ed_bl ea_nil)))) (by show 4 ≤ 1000; decide)) ea_nil)) (by show 2 ≤ 1000; decide))) (by show 4 + 2 ≤ 1000; decide))).is rfl) nw ?_
    refine sg_seq (N1 := fun G => ∃ x2 x3 x4 x5 x6 x7, G = ⟨[some (.v (.int Bp.P30)), some (.v (.lst ((Bp.c2.take 6).map emb2))), x2, x3, x4, x5, x6, x7, none, none, none, none], none⟩) (sg_for (si_list (ds := Bp.c2.map emb2) (ed_var rfl)) (fun _ G => ∃ x2 x3 x4 x5 x6 x7, G = ⟨[some (.v (.int Bp.P30)), some (.v (.lst ((Bp.c2.take 6).map emb2))), x2, x3, x4, x5, x6, x7, none, none, none, none], none⟩) ⟨_, _, _, _, _, none, rfl⟩ ?_ fun G h => h) ?_
    · clear x2 x3 x4 x5 x6
      rintro i d G hd ⟨x2, x3, x4, x5, x6, x7, rfl⟩
      rw [List.getElem?_map] at hd
      obtain ⟨c, hc, rfl⟩ := Option.map_eq_some_iff.mp hd
      have hm := List.mem_of_getElem? hc
      refine ⟨_, _, tg_many (js := [7, 4, 5, 6]) (ds := [.int c.1, il c.2.1, .int c.2.2.1, .bl c.2.2.2]) rfl nw, ?_⟩
      refine sg_if (b := false) ((et_T (ed_neb (ed_shH T (p := c.1) (ed_makeH (ea_cons (ed_var rfl) ea_nil)) (ea_cons (ed_var rfl) (ea_cons (ed_var rfl) ea_nil))) (ed_var rfl))).is ?_) (fun z => nomatch z) (fun _ => sg_next ⟨_, _, _, _, _, _, rfl⟩)
      rw [Bp.c2_ok c hm, bne_self_eq_false]
    clear x2 x3 x4 x5 x6
    rintro G ⟨x2, x3, x4, x5, x6, x7, rfl⟩
    refine sq_set (d := .lst ((Bp.c3.take 5).map emb3)) (En.toEd (en_lst (ea_cons (ed_tup (ea_cons (En.toEd (en_lst ea_nil (by show 0 ≤ 1000; decide))) (ea_cons ed_int (ea_cons ed_int ea_nil))) (by show 3 ≤ 1000; decide)) (ea_cons (ed_tup (ea_cons (En.toEd (en_lst (ea_cons ed_int ea_nil) (by show 1 ≤ 1000; decide))) (ea_cons ed_int (ea_cons ed_int ea_nil))) (by show 3 ≤ 1000; decide)) (ea_cons (ed_tup (ea_cons (En.toEd (en_lst (ea_cons ed_int (ea_cons ed_int ea_nil)) (by show 2 ≤ 1000; decide))) (ea_cons ed_int (ea_cons ed_int ea_nil))) (by show 3 ≤ 1000; decide)) (ea_cons (ed_tup (ea_cons (En.toEd (en_lst (ea_cons ed_int (ea_cons ed_int (ea_cons ed_int ea_nil))) (by show 3 ≤ 1000; decide))) (ea_cons ed_int (ea_cons ed_int ea_nil))) (by show 3 ≤ 1000; decide)) (ea_cons (ed_tup (ea_cons (En.toEd (en_lst (ea_cons ed_int (ea_cons ed_int (ea_cons ed_int (ea_cons ed_int ea_nil)))) (by show 4 ≤ 1000; decide))) (ea_cons ed_int (ea_cons ed_int ea_nil))) (by show 3 ≤ 1000; decide)) ea_nil))))) (by show 5 ≤ 1000; decide))) nw ?_
    refine sq_set (d := .lst ((Bp.c3.take 8).map emb3)) ((En.toEd (en_cat (xs := (Bp.c3.take 5).map emb3) (ys := ((Bp.c3.drop 5).take 3).map emb3) (ed_var rfl) (En.toEd (en_lst (ea_cons (ed_tup (ea_cons ((En.toEd (en_rep (xs := [.int Bp.P30]) (n := 5) (En.toEd (en_lst (ea_cons (ed_var rfl) ea_nil) (by show 1 ≤ 1000; decide))) ed_int ⟨by decide, by decide, by show 1 * 5 ≤ 1000; decide⟩)).is rfl) (ea_cons (ed_var rfl) (ea_cons ed_int ea_nil))) (by show 3 ≤ 1000; decide)) (ea_cons (ed_tup (ea_cons ((En.toEd (en_rep (xs := [.int 1]) (n := 7) (En.toEd (en_lst (ea_cons ed_int ea_nil) (by show 1 ≤ 1000; decide))) ed_int ⟨by decide, by decide, by show 1 * 7 ≤ 1000; decide⟩)).is rfl) (ea_cons ed_int (ea_cons ed_int ea_nil))) (by show 3 ≤ 1000; decide)) (ea_cons (ed_tup (ea_cons (En.toEd (en_lst (ea_cons ed_int (ea_cons ed_int (ea_cons ed_int (ea_cons ed_int ea_nil)))) (by show 4 ≤ 1000; decide))) (ea_cons ed_int (ea_cons ed_int ea_nil))) (by show 3 ≤ 1000; decide)) ea_nil))) (by show 3 ≤ 1000; decide))) (by show 5 + 3 ≤ 1000; decide))).is rfl) nw ?_
    refine sg_seq (N1 := fun G => ∃ x2 x3 x4 x5 x6 x7 x8 x9, G = ⟨[some (.v (.int Bp.P30)), some (.v (.lst ((Bp.c3.take 8).map emb3))), x2, x3, x4, x5, x6, x7, x8, x9, none, none], none⟩) (sg_for (si_list (ds := Bp.c3.map emb3) (ed_var rfl)) (fun _ G => ∃ x2 x3 x4 x5 x6 x7 x8 x9, G = ⟨[some (.v (.int Bp.P30)), some (.v (.lst ((Bp.c3.take 8).map emb3))), x2, x3, x4, x5, x6, x7, x8, x9, none, none], none⟩) ⟨_, _, _, _, _, _, none, none, rfl⟩ ?_ fun G h => h) ?_
    · clear x2 x3 x4 x5 x6 x7
      rintro i d G hd ⟨x2, x3, x4, x5, x6, x7, x8, x9, rfl⟩
      rw [List.getElem?_map] at hd
      obtain ⟨c, hc, rfl⟩ := Option.map_eq_some_iff.mp hd
      have hm := List.mem_of_getElem? hc
      have hp := Bp.c3_pre c hm
      refine ⟨_, _, tg_many (js := [4, 5, 8]) (ds := [il c.1, .int c.2.1, .int c.2.2]) rfl nw, ?_⟩
      refine sq_setG (eg_toldP T (ws := c.1) (L := c.2.1) (ea_cons (ed_var rfl) (ea_cons (ed_var rfl) ea_nil)) hp (Bp.c3_le c hm)) nw ?_
      rintro d ⟨bs, m, rfl, good, ho, hb⟩
      have e := Bp.c3_told hm good ho hb
      have fl : bs.flatten.length = c.1.length := good.flen
      have bl : bs.length ≤ c.1.length := good.blen
      refine sg_if (b := false) ((et_or (et_not (et_B (ed_isiO (ed_var rfl) T.i_Boats T.q_Boats_Boats))) fun _ => et_or (et_T (ed_nei (ed_lenB (bs := bs) (ed_fldB (ed_var rfl) T.cl_Boats T.n_Boats_boats)) (ed_var rfl))) fun _ => et_not (et_B (ed_shB T (bs := bs) (m := m) (ws := c.1) (L := c.2.1) (ed_var rfl) (ea_cons (ed_var rfl) (ea_cons (ed_var rfl) ea_nil)) ⟨by omega, by omega, by omega⟩))).is ?_) (fun z => nomatch z) (fun _ => sg_next ⟨_, _, _, _, _, _, _, _, rfl⟩)
      rw [Bp.shows_good good ho hb, e, decide_eq_true rfl]
      rfl
    clear x2 x3 x4 x5 x6 x7
    rintro G ⟨x2, x3, x4, x5, x6, x7, x8, x9, rfl⟩
    refine sq_when (b := false) ((et_or (et_not (et_B (eg_isiH (eg_toldH T (ws := [5]) (L := 4) (ea_cons (En.toI (ns := [5]) (en_lst (ea_cons ed_int ea_nil) (by show 1 ≤ 1000; decide))) (ea_cons ed_int ea_nil)) (by decide) 5 (by decide) (by decide)) (fun d h => h) T.i_Heavy T.q_Heavy_Heavy))) fun _ => et_not (et_B (eg_isiH (eg_toldH T (ws := [1]) (L := 0) (ea_cons (En.toI (ns := [1]) (en_lst (ea_cons ed_int ea_nil) (by show 1 ≤ 1000; decide))) (ea_cons ed_int ea_nil)) (by decide) 1 (by decide) (by decide)) (fun d h => h) T.i_Heavy T.q_Heavy_Heavy))).is rfl) (fun z => nomatch z) (fun _ => ?_)
    refine sq_set (d := .lst ((Bp.c4.take 5).map emb4)) (En.toEd (en_lst (ea_cons (ed_tup (ea_cons (En.toEd (en_lst ea_nil (by show 0 ≤ 1000; decide))) (ea_cons ed_int ea_nil)) (by show 2 ≤ 1000; decide)) (ea_cons (ed_tup (ea_cons (En.toEd (en_lst (ea_cons ed_int ea_nil) (by show 1 ≤ 1000; decide))) (ea_cons ed_int ea_nil)) (by show 2 ≤ 1000; decide)) (ea_cons (ed_tup (ea_cons (En.toEd (en_lst (ea_cons ed_int (ea_cons ed_int ea_nil)) (by show 2 ≤ 1000; decide))) (ea_cons ed_int ea_nil)) (by show 2 ≤ 1000; decide)) (ea_cons (ed_tup (ea_cons (En.toEd (en_lst (ea_cons ed_int (ea_cons ed_int (ea_cons ed_int (ea_cons ed_int ea_nil)))) (by show 4 ≤ 1000; decide))) (ea_cons ed_int ea_nil)) (by show 2 ≤ 1000; decide)) (ea_cons (ed_tup (ea_cons (En.toEd (en_lst (ea_cons ed_int (ea_cons ed_int ea_nil)) (by show 2 ≤ 1000; decide))) (ea_cons ed_int ea_nil)) (by show 2 ≤ 1000; decide)) ea_nil))))) (by show 5 ≤ 1000; decide))) nw ?_
    refine sq_set (d := .lst ((Bp.c4.take 9).map emb4)) ((En.toEd (en_cat (xs := (Bp.c4.take 5).map emb4) (ys := ((Bp.c4.drop 5).take 4).map emb4) (ed_var rfl) (En.toEd (en_lst (ea_cons (ed_tup (ea_cons ((En.toEd (en_rep (xs := [.int Bp.P30]) (n := 6) (En.toEd (en_lst (ea_cons (ed_var rfl) ea_nil) (by show 1 ≤ 1000; decide))) ed_int ⟨by decide, by decide, by show 1 * 6 ≤ 1000; decide⟩)).is rfl) (ea_cons (ed_IC ed_int (ed_var rfl) (.inl ⟨by decide, by decide⟩)) ea_nil)) (by show 2 ≤ 1000; decide)) (ea_cons (ed_tup (ea_cons ((En.toEd (en_rep (xs := [.int 1]) (n := 20) (En.toEd (en_lst (ea_cons ed_int ea_nil) (by show 1 ≤ 1000; decide))) ed_int ⟨by decide, by decide, by show 1 * 20 ≤ 1000; decide⟩)).is rfl) (ea_cons ed_int ea_nil)) (by show 2 ≤ 1000; decide)) (ea_cons (ed_tup (ea_cons (En.toEd (en_lst (ea_cons ed_int (ea_cons ed_int (ea_cons ed_int (ea_cons ed_int ea_nil)))) (by show 4 ≤ 1000; decide))) (ea_cons ed_int ea_nil)) (by show 2 ≤ 1000; decide)) (ea_cons (ed_tup (ea_cons (En.toEd (en_lst (ea_cons ed_int (ea_cons ed_int (ea_cons ed_int (ea_cons ed_int ea_nil)))) (by show 4 ≤ 1000; decide))) (ea_cons ed_int ea_nil)) (by show 2 ≤ 1000; decide)) ea_nil)))) (by show 4 ≤ 1000; decide))) (by show 5 + 4 ≤ 1000; decide))).is rfl) nw ?_
    refine sq_when (b := false) ((et_T (ed_neI (xs := Bp.c4.map fun c => Bp.wayF c.1 c.2) (ys := [1, 0, 0, 3, 0, 15, 654729075, 0, 1]) (En.toI ((en_lcPy (xs := Bp.c4) (e1 := fun c => il c.1) (e2 := fun c => .int c.2) (e := fun c => .int (Bp.wayF c.1 c.2)) (si_list (ds := Bp.c4.map emb4) (ed_var rfl)) (by show 9 ≤ 1000; decide) nw fun c hc => ed_waysP T (ea_cons (ed_var rfl) (ea_cons (ed_var rfl) ea_nil)) (Bp.c4_pre c hc)).is (by rw [List.map_map]; rfl))) (En.toEd (en_lst (ea_cons ed_int (ea_cons ed_int (ea_cons ed_int (ea_cons ed_int (ea_cons ed_int (ea_cons ed_int (ea_cons ed_int (ea_cons ed_int (ea_cons ed_int ea_nil))))))))) (by show 9 ≤ 1000; decide))))).is ?_) (fun z => nomatch z) (fun _ => ?_)
    · rw [Bp.c4_ok, decide_eq_true rfl]
      rfl
    refine sq_set (d := .lst ((Bp.c5.take 6).map emb4)) (En.toEd (en_lst (ea_cons (ed_tup (ea_cons (En.toEd (en_lst ea_nil (by show 0 ≤ 1000; decide))) (ea_cons ed_int ea_nil)) (by show 2 ≤ 1000; decide)) (ea_cons (ed_tup (ea_cons (En.toEd (en_lst (ea_cons ed_int (ea_cons ed_int ea_nil)) (by show 2 ≤ 1000; decide))) (ea_cons ed_int ea_nil)) (by show 2 ≤ 1000; decide)) (ea_cons (ed_tup (ea_cons (En.toEd (en_lst (ea_cons ed_int (ea_cons ed_int ea_nil)) (by show 2 ≤ 1000; decide))) (ea_cons ed_int ea_nil)) (by show 2 ≤ 1000; decide)) (ea_cons (ed_tup (ea_cons (En.toEd (en_lst (ea_cons ed_int (ea_cons ed_int (ea_cons ed_int (ea_cons ed_int ea_nil)))) (by show 4 ≤ 1000; decide))) (ea_cons ed_int ea_nil)) (by show 2 ≤ 1000; decide)) (ea_cons (ed_tup (ea_cons (En.toEd (en_lst (ea_cons ed_int ea_nil) (by show 1 ≤ 1000; decide))) (ea_cons ed_int ea_nil)) (by show 2 ≤ 1000; decide)) (ea_cons (ed_tup (ea_cons (En.toEd (en_lst (ea_cons (ed_var rfl) (ea_cons ed_int ea_nil)) (by show 2 ≤ 1000; decide))) (ea_cons ed_int ea_nil)) (by show 2 ≤ 1000; decide)) ea_nil)))))) (by show 6 ≤ 1000; decide))) nw ?_
    refine sq_set (d := .lst ((Bp.c5.take 8).map emb4)) ((En.toEd (en_cat (xs := (Bp.c5.take 6).map emb4) (ys := ((Bp.c5.drop 6).take 2).map emb4) (ed_var rfl) (En.toEd (en_lst (ea_cons (ed_tup (ea_cons (En.toEd (en_lst (ea_cons ed_int (ea_cons ed_int (ea_cons ed_int (ea_cons ed_int ea_nil)))) (by show 4 ≤ 1000; decide))) (ea_cons ed_int ea_nil)) (by show 2 ≤ 1000; decide)) (ea_cons (ed_tup (ea_cons (En.toEd (en_lst (ea_cons ed_int (ea_cons ed_int (ea_cons ed_int ea_nil))) (by show 3 ≤ 1000; decide))) (ea_cons ed_int ea_nil)) (by show 2 ≤ 1000; decide)) ea_nil)) (by show 2 ≤ 1000; decide))) (by show 6 + 2 ≤ 1000; decide))).is rfl) nw ?_
    refine sg_ret ((ed_eqI (xs := Bp.c5.map fun c => Bp.lstF c.1 c.2) (ys := [0, 5, 8, 5, 7, Bp.P30 + 1, 4, 6]) (En.toI ((en_lcPy (xs := Bp.c5) (e1 := fun c => il c.1) (e2 := fun c => .int c.2) (e := fun c => .int (Bp.lstF c.1 c.2)) (si_list (ds := Bp.c5.map emb4) (ed_var rfl)) (by show 8 ≤ 1000; decide) nw fun c hc => ed_leastP T (ea_cons (ed_var rfl) (ea_cons (ed_var rfl) ea_nil)) (Bp.c5_pre c hc)).is (by rw [List.map_map]; rfl))) (En.toEd (en_lst (ea_cons ed_int (ea_cons ed_int (ea_cons ed_int (ea_cons ed_int (ea_cons ed_int (ea_cons (ed_II (ed_var rfl) ed_int) (ea_cons ed_int (ea_cons ed_int ea_nil)))))))) (by show 8 ≤ 1000; decide)))).is ?_) rfl
    rw [Bp.c5_ok, decide_eq_true rfl]
end

section
variable {P : Program} {w : World} {K : PySem.W.Frag} {mg : Str → Option Value} {base : Heap}
def sp_law (K : PySem.W.Frag) : Sp := fun vs H Q _ => ∃ (a : Addr) (ns : List Int), vs = [.ref a] ∧ SqL K H a (ns.map V.int) ∧ ns.length ≤ 63 ∧ ∀ H', Q (.bl true) H'
theorem eg_people {Γ : Gm} {E : XK} {ta : TA} {ns : List Int} (h : Ea K ta Γ [il ns]) (hz : ns.length ≤ 63) : Eg K (tCall sp__law_people [] E ta) Γ fun r => ∃ ws, r = il ws ∧ ws.length = ns.length ∧ ∀ w ∈ ws, 1 ≤ w := eg_call ns h hz
theorem ed_limit {Γ : Gm} {E : XK} {ta : TA} {ns ws : List Int} (h : Ea K ta Γ [il ns, il ws]) (hz : ws.length ≤ 63 ∧ ∀ w ∈ ws, 1 ≤ w) : Ed K (tCall sp__law_limit [] E ta) Γ (.int (limF ns ws)) := (eg_call (ns, ws) h hz).toEd
theorem ed_promises (T : Tab K mg) {Γ : Gm} {E : XK} : Ed K (tCall (sp__law_promises_right T) [] E tNil) Γ (.bl true) := (eg_call () ea_nil trivial).toEd
theorem ed_right (T : Tab K mg) {Γ : Gm} {E : XK} {ta : TA} {ws : List Int} {L m : Int} {bs : List (List Int)} (h : Ea K ta Γ [il ws, .int L, btl bs, .int m]) (hz : bs.flatten.length ≤ 500 ∧ bs.length ≤ 500 ∧ ws.length ≤ 500) : Ed K (tCall (sp__law_right T) [] E ta) Γ (.bl true) := (eg_call (ws, L, bs, m) h hz).toEd
theorem ed_saysT {Γ : Gm} {E : XK} {ta : TA} {a : Bool} (h : Ea K ta Γ [.bl a, .bl a]) : Ed K (tCall sp__law_says [] E ta) Γ (.bl true) := (ed__law_says h).is (by simp)
def P20 : Int := 100000000000000000000
theorem p20_pos : 0 < P20 := by decide +kernel
theorem ed_pow20 {Γ : Gm} {ta tb : TE} (ha : Ed K ta Γ (.int 10)) (hb : Ed K tb Γ (.int 20)) : Ed K (tOp (rI CPow fun i j => .int (i ^ j.toNat)) ta tb) Γ (.int P20) := (ed_IC ha hb ⟨by decide, by decide, by decide⟩).is (congrArg D.int (by decide +kernel))
theorem good_two {ws : List Int} {L : Int} {bs : List (List Int)} (g : Bp.Good ws L bs) : ∀ b ∈ bs, 1 ≤ b.length ∧ b.length ≤ 2 := fun b hb => by
  rcases g.fit b hb with ⟨p, rfl, _⟩ | ⟨p, q, rfl, _⟩ <;> simp
/-- everybody alone -/
def aloneB (n : Nat) : List (List Int) := (Bp.rng n).map fun p => [p]
theorem alone_flat (n : Nat) : (aloneB n).flatten.length = n ∧ (aloneB n).length = n := by
  unfold aloneB
  refine ⟨?_, by rw [List.length_map, Bp.rng_len]⟩
  have e : ∀ l : List Int, (l.map fun p => [p]).flatten.length = l.length := fun l => by
    induction l with
    | nil => rfl
    | cons a l ih => rw [List.map_cons, List.flatten_cons, List.length_append, ih, List.length_cons]; exact Nat.add_comm 1 _
  rw [e, Bp.rng_len]
def g5 (C : Addr) (ss ws : List Int) (M : Int) (bs : List (List Int)) (m : Int) (x5 x6 x7 x8 x9 : Option Slo) : Gm := ⟨[some (.v (il ss)), some (.v (il ws)), some (.v (.int M)), some (.v (.bts C (btl bs) (.int m))), some (.v (btl (aloneB ws.length))), x5, x6, x7, x8, x9], none⟩
theorem ok_law (T : Tab K mg) : FnOk P w K mg base CX0 6 T.f_law T.d_law ["_law_script"] (sp_law K) := by
  refine T.F_law.ok sc_law (fun vs H Q E h => ?_) (fun cdv A outer s H vs Q E hr h => ?_)
  · obtain ⟨a, ns, rfl, _⟩ := h
    rfl
  · obtain ⟨a, ns, rfl, hs, hl, q⟩ := h
    refine ⟨_, (pss_cons (ps_if (pt_not (pt_val (pe_call0 (ok__law_promises_right T) (hr.mono (by decide)) (by rfl) T.g__law_promises_right T.F__law_promises_right.kp T.b__law_promises_right .nil pass0))) (pss_one (ps_ret pe_bl)) pss_nil)
      (pss_cons (ps_set (i := 0) sc_law.nd rfl (by first | exact Or.inl rfl | exact Or.inr rfl) (pe_slice (slL (K := K)) (pv 0) po_none (po_some pe_int)))
      (pss_cons (ps_set (i := 1) sc_law.nd rfl (by first | exact Or.inl rfl | exact Or.inr rfl) (pe_slice (slL (K := K)) (pe_call (ok__law_people T) (hr.mono (by decide)) (by rfl) T.g__law_people T.F__law_people.kp T.b__law_people .nil pass0 (pa_cons (pv 0) pa_nil)) po_none (po_some pe_int)))
      (pss_cons (ps_set (i := 2) sc_law.nd rfl (by first | exact Or.inl rfl | exact Or.inr rfl) (pe_callB (cr_max rfl) (by rfl) T.z_max (by decide +kernel) (pa_cons (pe_op op_cat (pe_lst (pa_cons (pe_call (ok__law_limit T) (hr.mono (by decide)) (by rfl) T.g__law_limit T.F__law_limit.kp T.b__law_limit .nil pass0 (pa_cons (pv 0) (pa_cons (pv 1) pa_nil))) pa_nil)) (pv 1)) pa_nil)))
      (pss_cons (ps_if (pt_cmpR (op_eqD hr.units) (pv 1) (pe_lst pa_nil) (nomark _)) (pss_one (ps_ret (pe_and (pe_call (ok__law_says T) (hr.mono (by decide)) (by rfl) T.g__law_says T.F__law_says.kp T.b__law_says .nil pass0 (pa_cons (pe_meth (pe_make T.k_Boats (ok_Boatsinit T) (hr.mono (by decide)) (by rfl) T.g_Boats T.b_Boatsinit .nil pass0 (pa_cons (pe_lst pa_nil) (pa_cons pe_int pa_nil))) T.cl_Boats T.m_Boats_shows (ok_Boats_shows T) (hr.mono (by decide)) T.b_Boats_shows .nil pass0 (pa_cons (pe_lst pa_nil) (pa_cons pe_int pa_nil))) (pa_cons pe_bl pa_nil))) (pe_one (pe_call (ok__law_says T) (hr.mono (by decide)) (by rfl) T.g__law_says T.F__law_says.kp T.b__law_says .nil pass0 (pa_cons (pe_meth (pe_make T.k_Boats (ok_Boatsinit T) (hr.mono (by decide)) (by rfl) T.g_Boats T.b_Boatsinit .nil pass0 (pa_cons (pe_lst pa_nil) (pa_cons pe_int pa_nil))) T.cl_Boats T.m_Boats_shows (ok_Boats_shows T) (hr.mono (by decide)) T.b_Boats_shows .nil pass0 (pa_cons (pe_lst pa_nil) (pa_cons pe_int pa_nil))) (pa_cons pe_bl pa_nil))))))) pss_nil)
      (pss_cons (ps_set (i := 3) sc_law.nd rfl (by first | exact Or.inl rfl | exact Or.inr rfl) (pe_call (ok_told T) (hr.mono (by decide)) (by rfl) T.g_told T.F_told.kp T.b_told .nil passL (pa_cons (pv 1) (pa_cons (pv 2) pa_nil))))
      (pss_cons (ps_setLc (i := 4) (own := [("_law_person", 5)]) (g := gName 5) (by rfl) sc_law.nd rfl rfl (sw_true rfl rfl rfl (by decide +kernel)) (pi_range1 (by rfl) T.z_range (pa_cons (pe_callB (crLen (K := K)) (by rfl) T.z_len (by decide +kernel) (pa_cons (pv 1) pa_nil)) pa_nil)) (blkOk_by (own := [("_law_person", 5)]) (N := ["_law_script", "_law_weights", "_law_limit_here", "_law_found", "_law_alone", "_law_person", "_law_cell", "_law_due", "_law_mark", "_law_bent_here"]) (sc := defScope s_law) (by decide +kernel)) (fun _ _ _ _ _ => (pg_name (i := 5) sc_law.nd rfl (by first | exact Or.inl rfl | exact Or.inr rfl))) (fun _ _ _ _ _ => (pts_nil)) (fun _ _ _ _ _ => (pe_tup (pa_cons (pv 5) pa_nil))))
      (pss_cons (ps_for PassesOwn.never rfl (pi_list (pe_op op_cat (pe_slice (slL (K := K)) (pv 0) po_none (po_some pe_int)) (pe_step (pv 0) (po_some pe_int) po_none (po_some pe_int)))) (pg_name (i := 6) sc_law.nd rfl (by first | exact Or.inl rfl | exact Or.inr rfl))
        (pss_cons (ps_for PassesOwn.never rfl (pi_list (pe_lst (pa_cons (pe_op op_sub (pe_op op_mod (pv 6) (pe_op op_add (pe_callB (crLen (K := K)) (by rfl) T.z_len (by decide +kernel) (pa_cons (pv 1) pa_nil)) pe_int)) pe_int) (pa_cons (pe_op op_mod (pv 6) (pe_op op_pow pe_int pe_int)) (pa_cons (pe_un un_neg pe_int) pa_nil))))) (pg_name (i := 5) sc_law.nd rfl (by first | exact Or.inl rfl | exact Or.inr rfl))
        (pss_cons (ps_set (i := 7) sc_law.nd rfl (by first | exact Or.inl rfl | exact Or.inr rfl) (pe_and (pe_chain op_le op_lt pe_int (pv 5) (pe_callB (crLen (K := K)) (by rfl) T.z_len (by decide +kernel) (pa_cons (pv 1) pa_nil))) (pe_one (pe_cmpR op_gt (pe_ix (ixL (K := K)) (pv 1) (pv 5) (fun _ _ => rfl)) (pe_op op_fdiv (pv 2) pe_int) (nomark _)))))
      (pss_one (ps_if (PW.pt (pw_or (pt_cmpR op_ne (pe_fld (pe_make T.k_Heavy (ok_Heavyinit T) (hr.mono (by decide)) (by rfl) T.g_Heavy T.b_Heavyinit .nil pass0 (pa_cons (pv 5) pa_nil)) rfl) (pv 5) (nomark _)) (pw_or1 (pt_not (pt_val (pe_call (ok__law_says T) (hr.mono (by decide)) (by rfl) T.g__law_says T.F__law_says.kp T.b__law_says .nil pass0 (pa_cons (pe_meth (pe_make T.k_Heavy (ok_Heavyinit T) (hr.mono (by decide)) (by rfl) T.g_Heavy T.b_Heavyinit .nil pass0 (pa_cons (pv 5) pa_nil)) T.cl_Heavy T.m_Heavy_shows (ok_Heavy_shows T) (hr.mono (by decide)) T.b_Heavy_shows .nil pass0 (pa_cons (pv 1) (pa_cons (pe_op op_fdiv (pv 2) pe_int) pa_nil))) (pa_cons (pv 7) pa_nil)))))))) (pss_one (ps_ret pe_bl)) pss_nil))))
      (pss_cons (ps_for PassesOwn.never rfl (pi_list (pe_lst (pa_cons (pe_fld (pv 3) rfl) (pa_cons (pe_op op_add (pe_fld (pv 3) rfl) pe_int) (pa_cons (pe_op op_sub (pe_fld (pv 3) rfl) pe_int) (pa_cons (pe_op op_mod (pv 6) (pe_op op_add (pv 2) pe_int)) (pa_cons (pe_op op_fdiv (pe_op op_add (pv 2) pe_int) pe_int) pa_nil))))))) (pg_name (i := 8) sc_law.nd rfl (by first | exact Or.inl rfl | exact Or.inr rfl))
        (pss_cons (ps_if (pt_not (pt_val (pe_call (ok__law_right T) (hr.mono (by decide)) (by rfl) T.g__law_right T.F__law_right.kp T.b__law_right .nil pass0 (pa_cons (pv 1) (pa_cons (pv 2) (pa_cons (pe_fld (pv 3) rfl) (pa_cons (pv 8) pa_nil))))))) (pss_one (ps_ret pe_bl)) pss_nil)
      (pss_one (ps_if (pt_not (pt_val (pe_call (ok__law_right T) (hr.mono (by decide)) (by rfl) T.g__law_right T.F__law_right.kp T.b__law_right .nil pass0 (pa_cons (pv 1) (pa_cons (pv 2) (pa_cons (pv 4) (pa_cons (pv 8) pa_nil))))))) (pss_one (ps_ret pe_bl)) pss_nil))))
      (pss_cons (ps_set (i := 9) sc_law.nd rfl (by first | exact Or.inl rfl | exact Or.inr rfl) (pe_call (ok__law_bent T) (hr.mono (by decide)) (by rfl) T.g__law_bent T.F__law_bent.kp T.b__law_bent .nil pass0 (pa_cons (pe_fld (pv 3) rfl) (pa_cons (pv 6) (pa_cons (pe_callB (crLen (K := K)) (by rfl) T.z_len (by decide +kernel) (pa_cons (pv 1) pa_nil)) pa_nil)))))
      (pss_cons (ps_if (pt_not (pt_val (pe_call (ok__law_right T) (hr.mono (by decide)) (by rfl) T.g__law_right T.F__law_right.kp T.b__law_right .nil pass0 (pa_cons (pv 1) (pa_cons (pv 2) (pa_cons (pv 9) (pa_cons (pe_fld (pv 3) rfl) pa_nil))))))) (pss_one (ps_ret pe_bl)) pss_nil)
      (pss_one (ps_if (pt_not (pt_val (pe_call (ok__law_right T) (hr.mono (by decide)) (by rfl) T.g__law_right T.F__law_right.kp T.b__law_right .nil pass0 (pa_cons (pv 1) (pa_cons (pe_op op_sub (pv 2) pe_int) (pa_cons (pv 9) (pa_cons (pe_fld (pv 3) rfl) pa_nil))))))) (pss_one (ps_ret pe_bl)) pss_nil)))))))
      (pss_cons (ps_if (pt_not (pt_val (pe_call (ok__law_says T) (hr.mono (by decide)) (by rfl) T.g__law_says T.F__law_says.kp T.b__law_says .nil pass0 (pa_cons (pe_meth (pe_make T.k_Boats (ok_Boatsinit T) (hr.mono (by decide)) (by rfl) T.g_Boats T.b_Boatsinit .nil pass0 (pa_cons (pe_lst (pa_cons (pe_tup (pa_cons pe_int (pa_cons pe_int pa_nil))) pa_nil)) (pa_cons pe_int pa_nil))) T.cl_Boats T.m_Boats_shows (ok_Boats_shows T) (hr.mono (by decide)) T.b_Boats_shows .nil pass0 (pa_cons (pe_lst (pa_cons pe_int (pa_cons pe_int pa_nil))) (pa_cons pe_int pa_nil))) (pa_cons pe_bl pa_nil))))) (pss_one (ps_ret pe_bl)) pss_nil)
      (pss_one (ps_ret (pe_call (ok__law_says T) (hr.mono (by decide)) (by rfl) T.g__law_says T.F__law_says.kp T.b__law_says .nil pass0 (pa_cons (pe_meth (pe_make T.k_Boats (ok_Boatsinit T) (hr.mono (by decide)) (by rfl) T.g_Boats T.b_Boatsinit .nil pass0 (pa_cons (pe_lst (pa_cons (pe_tup (pa_cons pe_int (pa_cons pe_int pa_nil))) pa_nil)) (pa_cons pe_int pa_nil))) T.cl_Boats T.m_Boats_shows (ok_Boats_shows T) (hr.mono (by decide)) T.b_Boats_shows .nil pass0 (pa_cons (pe_lst (pa_cons pe_int (pa_cons pe_int pa_nil))) (pa_cons pe_int pa_nil))) (pa_cons pe_bl pa_nil)))))))))))))), run_law (K := K) (E := E) (ns := ns) (by show 0 < 10; decide) hs ?_ q⟩
    simp only [kN, kC]
    refine sq_when (b := false) (et_not (et_B (ed_promises T))) (fun z => nomatch z) (fun _ => ?_)
    refine sq_set (En.toI (en_slS rfl eo_none (eo_some ed_int))) nw ?_
    have hl2 := Nat.le_trans (cutG_len ns none (some 63)) hl
    generalize cutG ns none (some 63) = ss at hl2 ⊢
    refine sq_setG (eg_slI (eg_people (ea_cons (ed_var rfl) ea_nil) hl2) eo_none (eo_some ed_int)) nw ?_
    rintro d ⟨wv, rfl, w1, w2⟩
    have w3 : (cutG wv none (some 16)).length ≤ 16 := by
      unfold cutG
      rw [List.length_take]
      show min (HT.sIx wv.length wv.length (some ((16 : Nat) : Int)) - 0) _ ≤ 16
      rw [HT.sIx_nat]
      omega
    have w4 : ∀ w ∈ cutG wv none (some 16), 1 ≤ w := fun w hw => w2 w (cutG_mem hw)
    generalize cutG wv none (some 16) = ws at w3 w4 ⊢
    clear w1 w2
    obtain ⟨M, hM1, hM2⟩ := Bp.max_ex (l := [limF ss ws] ++ ws) (by simp)
    have l0 := limF_nn (ns := ss) w4
    have hM0 : 0 ≤ M := by
      have := hM2 (limF ss ws) (by simp)
      omega
    have hML : ∀ w ∈ ws, w ≤ M := fun w hw => hM2 w (by simp [hw])
    refine sq_set (ed_max (En.toI (en_catI (En.toI (ns := [limF ss ws]) (en_lst (ea_cons (ed_limit (ea_cons (ed_var rfl) (ea_cons (ed_var rfl) ea_nil)) ⟨by omega, w4⟩) ea_nil) (by show 1 ≤ 1000; decide))) (ed_var rfl) (by show 1 + ws.length ≤ 1000; omega))) ⟨hM1, hM2⟩) nw ?_
    obtain ⟨hd1, hd2, hd3, hd4⟩ := Bp.hand0
    refine sq_when (b := decide (ws = [])) (et_T (ed_eqI (ed_var rfl) (En.toI (ns := []) (en_lst ea_nil (by decide))))) (fun _ => ?_) (fun hne => ?_)
    · refine sg_ret ((ed_and (a := true) (b := true) ?_ fun _ => ?_).is rfl) rfl
      · refine (ed__law_says (ea_cons (ed_shB T (bs := []) (ws := []) (L := 3) (m := 0) (ed_makeB (ds := []) (ea_cons (En.toEd (en_lst ea_nil (by decide))) (ea_cons ed_int ea_nil))) (ea_cons (En.toI (ns := []) (en_lst ea_nil (by decide))) (ea_cons ed_int ea_nil)) (by decide)) (ea_cons ed_bl ea_nil))).is ?_
        rw [hd1]
        rfl
      · refine (ed__law_says (ea_cons (ed_shB T (bs := []) (ws := []) (L := 0) (m := 1) (ed_makeB (ds := []) (ea_cons (En.toEd (en_lst ea_nil (by decide))) (ea_cons ed_int ea_nil))) (ea_cons (En.toI (ns := []) (en_lst ea_nil (by decide))) (ea_cons ed_int ea_nil)) (by decide)) (ea_cons ed_bl ea_nil))).is ?_
        rw [hd2]
        rfl
    have hws : 1 ≤ ws.length := by
      rw [decide_eq_false_iff_not] at hne
      cases ws with
      | nil => exact (hne rfl).elim
      | cons a r => rw [List.length_cons]; omega
    clear hne
    refine sq_setG (eg_toldP T (ea_cons (ed_var rfl) (ea_cons (ed_var rfl) ea_nil)) ⟨by omega, w4, hM0⟩ hML) nw ?_
    rintro d ⟨bs, m, rfl, good, hm, hb⟩
    have fl : bs.flatten.length = ws.length := good.flen
    have bl : bs.length ≤ ws.length := good.blen
    obtain ⟨al1, al2⟩ := alone_flat ws.length
    refine sq_set (d := btl (aloneB ws.length)) (En.toB ((en_lcIy (ns := Bp.rng ws.length) (e := fun p => itup [p]) ?_ (by rw [Bp.rng_len]; omega) nw fun p hp => ed_tup (ea_cons (ed_var rfl) ea_nil) (by show 1 ≤ 1000; decide)).is (by unfold aloneB; rw [List.map_map]; rfl))) nw ?_
    · have h := si_range1 (ed_lenI (ns := ws) (ed_var (Γ := ⟨[some (.v (il ss)), some (.v (il ws)), some (.v (.int M)), some (.v (.bts T.c_Boats (btl bs) (.int m))), none, none, none, none, none, none], none⟩) (i := 1) (K := K) rfl)) (by omega) (by omega)
      rw [show rgD 0 ((ws.length : Int).toNat) = (Bp.rng ws.length).map D.int by
        unfold rgD Bp.rng
        rw [Int.toNat_natCast, List.map_map]
        congr 1
        funext i
        show D.int (0 + (i : Int)) = D.int (i : Int)
        rw [Int.zero_add]] at h
      exact h
    refine sg_seq (N1 := fun G => ∃ x5 x6 x7 x8 x9, G = g5 T.c_Boats ss ws M bs m x5 x6 x7 x8 x9) (sg_for (si_listI (ns := cutG ss none (some 5) ++ pickG ss (some 5) none (some 12)) (En.toI (en_catI (En.toI (en_slI (ed_var rfl) eo_none (eo_some ed_int))) (En.toI (en_stepI (ed_var rfl) (eo_some ed_int) eo_none (eo_some ed_int) (by decide) ?_)) ?_))) (fun _ G => ∃ x5 x6 x7 x8 x9, G = g5 T.c_Boats ss ws M bs m x5 x6 x7 x8 x9) ⟨none, none, none, none, none, rfl⟩ ?_ fun G h => h) ?_
    · have := pickG_len ss (some 5) none (some 12)
      omega
    · have := pickG_len ss (some 5) none (some 12)
      have := cutG_len ss none (some 5)
      omega
    · rintro i d G hd ⟨x5, x6, x7, x8, x9, rfl⟩
      rw [List.getElem?_map] at hd
      obtain ⟨c, hc, rfl⟩ := Option.map_eq_some_iff.mp hd
      refine ⟨_, _, tg_name nw, ?_⟩
      have hn2 : (0 : Int) < (ws.length : Int) + 2 := by omega
      refine sg_seq (N1 := fun G => ∃ x5 x7, G = g5 T.c_Boats ss ws M bs m x5 (some (.v (.int c))) x7 x8 x9) (sg_for (si_listI (ns := [c % ((ws.length : Int) + 2) - 1, c % P20, -1]) (En.toI (ns := [c % ((ws.length : Int) + 2) - 1, c % P20, -1]) (en_lst (ea_cons (ed_II (ed_IC (ed_var rfl) (ed_II (ed_lenI (ed_var rfl)) ed_int) hn2) ed_int) (ea_cons (ed_IC (ed_var rfl) (ed_pow20 ed_int ed_int) p20_pos) (ea_cons (ed_neg ed_int) ea_nil))) (by show 3 ≤ 1000; decide)))) (fun _ G => ∃ x5 x7, G = g5 T.c_Boats ss ws M bs m x5 (some (.v (.int c))) x7 x8 x9) ⟨x5, x7, rfl⟩ ?_ fun G h => h) ?_
      · clear x5 x7
        rintro j d G hd ⟨x5, x7, rfl⟩
        rw [List.getElem?_map] at hd
        obtain ⟨p, hp, rfl⟩ := Option.map_eq_some_iff.mp hd
        refine ⟨_, _, tg_name nw, ?_⟩
        refine sq_set (d := .bl (Bp.heavyF ws (M / 2) p)) (ed_and (a := decide (0 ≤ p) && decide (p < (ws.length : Int))) (b := decide (M / 2 < Bp.wt ws p)) (ed_chain ed_int (ed_var rfl) (ed_lenI (ed_var rfl))) fun h => ?_) nw ?_
        · rw [Bool.and_eq_true, decide_eq_true_eq, decide_eq_true_eq] at h
          exact ed_IB (ed_ixI (ed_var rfl) (ed_var rfl) (Bp.atI_wt h.1 h.2)) (ed_IC (ed_var rfl) ed_int ⟨by decide, by decide⟩)
        · refine sg_if (b := false) ((et_or (et_T (ed_nei (ed_fldP (ed_makeH (d := .int p) (ea_cons (ed_var rfl) ea_nil)) T.cl_Heavy T.n_Heavy_person) (ed_var rfl))) fun _ => et_not (et_B (ed_saysT (ea_cons (ed_shH T (ws := ws) (L := M / 2) (p := p) (ed_makeH (ea_cons (ed_var rfl) ea_nil)) (ea_cons (ed_var rfl) (ea_cons (ed_IC (ed_var rfl) ed_int ⟨by decide, by decide⟩) ea_nil))) (ea_cons (ed_var rfl) ea_nil))))).is ?_) (fun z => nomatch z) (fun _ => sg_next ⟨_, _, rfl⟩)
          rw [decide_eq_true rfl]
          rfl
      clear x5 x7
      rintro G ⟨x5, x7, rfl⟩
      have hM2' : (0 : Int) < M + 2 := by omega
      have hz1 : bs.flatten.length ≤ 500 ∧ bs.length ≤ 500 ∧ ws.length ≤ 500 := by omega
      have hz2 : (aloneB ws.length).flatten.length ≤ 500 ∧ (aloneB ws.length).length ≤ 500 ∧ ws.length ≤ 500 := by omega
      refine sg_seq (N1 := fun G => ∃ x8, G = g5 T.c_Boats ss ws M bs m x5 (some (.v (.int c))) x7 x8 x9) (sg_for (si_listI (ns := [m, m + 1, m - 1, c % (M + 2), (M + 2) / 2]) (En.toI (ns := [m, m + 1, m - 1, c % (M + 2), (M + 2) / 2]) (en_lst (ea_cons (ed_fldM (ed_var rfl) T.cl_Boats T.n_Boats_mark) (ea_cons (ed_II (ed_fldM (ed_var rfl) T.cl_Boats T.n_Boats_mark) ed_int) (ea_cons (ed_II (ed_fldM (ed_var rfl) T.cl_Boats T.n_Boats_mark) ed_int) (ea_cons (ed_IC (ed_var rfl) (ed_II (ed_var rfl) ed_int) hM2') (ea_cons (ed_IC (ed_II (ed_var rfl) ed_int) ed_int ⟨by decide, by decide⟩) ea_nil))))) (by show 5 ≤ 1000; decide)))) (fun _ G => ∃ x8, G = g5 T.c_Boats ss ws M bs m x5 (some (.v (.int c))) x7 x8 x9) ⟨x8, rfl⟩ ?_ fun G h => h) ?_
      · clear x8
        rintro j d G hd ⟨x8, rfl⟩
        rw [List.getElem?_map] at hd
        obtain ⟨k, hk, rfl⟩ := Option.map_eq_some_iff.mp hd
        refine ⟨_, _, tg_name nw, ?_⟩
        refine sq_when (b := false) (et_not (et_B (ed_right T (bs := bs) (ea_cons (ed_var rfl) (ea_cons (ed_var rfl) (ea_cons (ed_fldB (ed_var rfl) T.cl_Boats T.n_Boats_boats) (ea_cons (ed_var rfl) ea_nil)))) hz1))) (fun z => nomatch z) (fun _ => ?_)
        exact sg_if (b := false) (et_not (et_B (ed_right T (bs := aloneB ws.length) (ea_cons (ed_var rfl) (ea_cons (ed_var rfl) (ea_cons (ed_var rfl) (ea_cons (ed_var rfl) ea_nil)))) hz2))) (fun z => nomatch z) (fun _ => sg_next ⟨_, rfl⟩)
      clear x8
      rintro G ⟨x8, rfl⟩
      refine sq_setG (eg_call (bs, c, (ws.length : Int)) (ea_cons (ed_fldB (ed_var rfl) T.cl_Boats T.n_Boats_boats) (ea_cons (ed_var rfl) (ea_cons (ed_lenI (ed_var rfl)) ea_nil))) ⟨by show bs.length ≤ 50; omega, good_two good, by show (1 : Int) ≤ (ws.length : Int); omega⟩) nw ?_
      rintro d ⟨bt, rfl, bt1, bt2⟩
      have hz3 : bt.flatten.length ≤ 500 ∧ bt.length ≤ 500 ∧ ws.length ≤ 500 := ⟨bt1, bt2, by omega⟩
      refine sq_when (b := false) (et_not (et_B (ed_right T (bs := bt) (ea_cons (ed_var rfl) (ea_cons (ed_var rfl) (ea_cons (ed_var rfl) (ea_cons (ed_fldM (ed_var rfl) T.cl_Boats T.n_Boats_mark) ea_nil)))) hz3))) (fun z => nomatch z) (fun _ => ?_)
      exact sg_if (b := false) (et_not (et_B (ed_right T (bs := bt) (ea_cons (ed_var rfl) (ea_cons (ed_II (ed_var rfl) ed_int) (ea_cons (ed_var rfl) (ea_cons (ed_fldM (ed_var rfl) T.cl_Boats T.n_Boats_mark) ea_nil)))) hz3))) (fun z => nomatch z) (fun _ => sg_next ⟨_, _, _, _, _, rfl⟩)
    · rintro G ⟨x5, x6, x7, x8, x9, rfl⟩
      refine sq_when (b := false) ((et_not (et_B (ed__law_says (ea_cons (ed_shB T (bs := [[1, 0]]) (ws := [1, 2]) (L := 3) (m := 0) (ed_makeB (ds := [itup [1, 0]]) (ea_cons (En.toEd (en_lst (ea_cons (ed_tup (ea_cons ed_int (ea_cons ed_int ea_nil)) (by show 2 ≤ 1000; decide)) ea_nil) (by show 1 ≤ 1000; decide))) (ea_cons ed_int ea_nil))) (ea_cons (En.toI (ns := [1, 2]) (en_lst (ea_cons ed_int (ea_cons ed_int ea_nil)) (by show 2 ≤ 1000; decide))) (ea_cons ed_int ea_nil)) (by decide)) (ea_cons ed_bl ea_nil))))).is ?_) (fun z => nomatch z) (fun _ => ?_)
      · rw [hd3]
        rfl
      · refine sg_ret ((ed__law_says (ea_cons (ed_shB T (bs := [[0, 1]]) (ws := [1, 2]) (L := 3) (m := 0) (ed_makeB (ds := [itup [0, 1]]) (ea_cons (En.toEd (en_lst (ea_cons (ed_tup (ea_cons ed_int (ea_cons ed_int ea_nil)) (by show 2 ≤ 1000; decide)) ea_nil) (by show 1 ≤ 1000; decide))) (ea_cons ed_int ea_nil))) (ea_cons (En.toI (ns := [1, 2]) (en_lst (ea_cons ed_int (ea_cons ed_int ea_nil)) (by show 2 ≤ 1000; decide))) (ea_cons ed_int ea_nil)) (by decide)) (ea_cons ed_bl ea_nil))).is ?_) rfl
        rw [hd4]
        rfl
end

theorem all_mk {l : PySem.W.OpenLaw} {w : World} {K : PySem.W.Frag} {h : Heap} {mg : Str → Option Value} {fa CAnswer CHeavy CBoats CBoatError CBadPeople CBadLimit CBadBoats f1 f2 f3 f4 f5 f6 f7 f8 f9 f10 f11 f12 f13 f14 f15 f16 f17 f18 f19 f20 f21 f22 f23 f24 f25 f26 : Addr} (X : K.In h) (G : h.Ns mainGlobals mg) (hfa : mg "law" = some (.ref fa))
    {od1 od2 od3 od4 od5 od6 od7 od8 od9 od10 od11 od12 od13 od14 od15 od16 od17 od18 od19 od20 od21 od22 od23 od24 od25 od26 an1 an2 an3 an4 an5 an6 an7 an8 an9 an10 an11 an12 an13 an14 an15 an16 an17 an18 an19 an20 an21 an22 an23 an24 an25 an26 : Option Addr} {sl1 sl2 sl3 sl4 sl5 sl6 sl7 sl8 sl9 sl10 sl11 sl12 sl13 sl14 sl15 sl16 sl17 sl18 sl19 sl20 sl21 sl22 sl23 sl24 sl25 sl26 : Array (Option Value)} {oc1 oc2 oc3 oc4 oc5 oc6 oc7 oc8 oc9 oc10 oc11 oc12 oc13 oc14 oc15 oc16 oc17 oc18 oc19 oc20 oc21 oc22 oc23 oc24 oc25 oc26 kV1 kV2 kV3 kV4 kV5 kV6 kV7 kV8 kV9 kV10 kV11 kV12 kV13 kV14 kV15 kV16 kV17 kV18 kV19 kV20 kV21 kV22 kV23 kV24 kV25 kV26 dc1 dc2 dc3 dc4 dc5 dc6 dc7 dc8 dc9 dc10 dc11 dc12 dc13 dc14 dc15 dc16 dc17 dc18 dc19 dc20 dc21 dc22 dc23 dc24 dc25 dc26 pm1 pm2 pm3 pm4 pm5 pm6 pm7 pm8 pm9 pm10 pm11 pm12 pm13 pm14 pm15 pm16 pm17 pm18 pm19 pm20 pm21 pm22 pm23 pm24 pm25 pm26 cd1 cd2 cd3 cd4 cd5 cd6 cd7 cd8 cd9 cd10 cd11 cd12 cd13 cd14 cd15 cd16 cd17 cd18 cd19 cd20 cd21 cd22 cd23 cd24 cd25 cd26 ct1 ct2 ct3 ct4 ct5 ct6 ct7 ct8 ct9 ct10 ct11 ct12 ct13 ct14 ct15 ct16 ct17 ct18 ct19 ct20 ct21 ct22 ct23 ct24 ct25 ct26 : Value}
    (aCAnswer : PySem.W.nsIn K mainGlobals "Answer" = some (some (.ref CAnswer)))
    (aCHeavy : PySem.W.nsIn K mainGlobals "Heavy" = some (some (.ref CHeavy)))
    (aCBoats : PySem.W.nsIn K mainGlobals "Boats" = some (some (.ref CBoats)))
    (aCBoatError : PySem.W.nsIn K mainGlobals "BoatError" = some (some (.ref CBoatError)))
    (aCBadPeople : PySem.W.nsIn K mainGlobals "BadPeople" = some (some (.ref CBadPeople)))
    (aCBadLimit : PySem.W.nsIn K mainGlobals "BadLimit" = some (some (.ref CBadLimit)))
    (aCBadBoats : PySem.W.nsIn K mainGlobals "BadBoats" = some (some (.ref CBadBoats)))
    (a1 : PySem.W.nsIn K mainGlobals "is_number" = some (some (.ref f1)))
    (l1 : K.lookup f1 = some ⟨oc1, od1, .func (PySem.W.fnOf "is_number" "is_number" (defArgs s_is_number) (defBody s_is_number) (defScope s_is_number) .none kV1 dc1 pm1 an1 cd1 ct1), sl1⟩)
    (e1 : PySem.W.codeIn K cd1 "is_number" = true)
    (k1 : PySem.W.keepIn K (.ref f1) = true)
    (a2 : PySem.W.nsIn K mainGlobals "asked_people" = some (some (.ref f2)))
    (l2 : K.lookup f2 = some ⟨oc2, od2, .func (PySem.W.fnOf "asked_people" "asked_people" (defArgs s_asked_people) (defBody s_asked_people) (defScope s_asked_people) .none kV2 dc2 pm2 an2 cd2 ct2), sl2⟩)
    (e2 : PySem.W.codeIn K cd2 "asked_people" = true)
    (k2 : PySem.W.keepIn K (.ref f2) = true)
    (a3 : PySem.W.nsIn K mainGlobals "asked_two" = some (some (.ref f3)))
    (l3 : K.lookup f3 = some ⟨oc3, od3, .func (PySem.W.fnOf "asked_two" "asked_two" (defArgs s_asked_two) (defBody s_asked_two) (defScope s_asked_two) .none kV3 dc3 pm3 an3 cd3 ct3), sl3⟩)
    (e3 : PySem.W.codeIn K cd3 "asked_two" = true)
    (k3 : PySem.W.keepIn K (.ref f3) = true)
    (a4 : PySem.W.nsIn K mainGlobals "heavy" = some (some (.ref f4)))
    (l4 : K.lookup f4 = some ⟨oc4, od4, .func (PySem.W.fnOf "heavy" "heavy" (defArgs s_heavy) (defBody s_heavy) (defScope s_heavy) .none kV4 dc4 pm4 an4 cd4 ct4), sl4⟩)
    (e4 : PySem.W.codeIn K cd4 "heavy" = true)
    (k4 : PySem.W.keepIn K (.ref f4) = true)
    (a5 : PySem.W.nsIn K mainGlobals "light" = some (some (.ref f5)))
    (l5 : K.lookup f5 = some ⟨oc5, od5, .func (PySem.W.fnOf "light" "light" (defArgs s_light) (defBody s_light) (defScope s_light) .none kV5 dc5 pm5 an5 cd5 ct5), sl5⟩)
    (e5 : PySem.W.codeIn K cd5 "light" = true)
    (k5 : PySem.W.keepIn K (.ref f5) = true)
    (a6 : PySem.W.nsIn K mainGlobals "bound" = some (some (.ref f6)))
    (l6 : K.lookup f6 = some ⟨oc6, od6, .func (PySem.W.fnOf "bound" "bound" (defArgs s_bound) (defBody s_bound) (defScope s_bound) .none kV6 dc6 pm6 an6 cd6 ct6), sl6⟩)
    (e6 : PySem.W.codeIn K cd6 "bound" = true)
    (k6 : PySem.W.keepIn K (.ref f6) = true)
    (a7 : PySem.W.nsIn K mainGlobals "in_order" = some (some (.ref f7)))
    (l7 : K.lookup f7 = some ⟨oc7, od7, .func (PySem.W.fnOf "in_order" "in_order" (defArgs s_in_order) (defBody s_in_order) (defScope s_in_order) .none kV7 dc7 pm7 an7 cd7 ct7), sl7⟩)
    (e7 : PySem.W.codeIn K cd7 "in_order" = true)
    (k7 : PySem.W.keepIn K (.ref f7) = true)
    (a8 : PySem.W.nsIn K mainGlobals "ways" = some (some (.ref f8)))
    (l8 : K.lookup f8 = some ⟨oc8, od8, .func (PySem.W.fnOf "ways" "ways" (defArgs s_ways) (defBody s_ways) (defScope s_ways) .none kV8 dc8 pm8 an8 cd8 ct8), sl8⟩)
    (e8 : PySem.W.codeIn K cd8 "ways" = true)
    (k8 : PySem.W.keepIn K (.ref f8) = true)
    (a9 : PySem.W.findIn K (.ref CHeavy) "__init__" = some (some (.ref f9)))
    (i9 : PySem.W.isFn K (.ref f9) = true)
    (l9 : K.lookup f9 = some ⟨oc9, od9, .func (PySem.W.fnOf "__init__" "Heavy.__init__" (defArgs s_Heavyinit) (defBody s_Heavyinit) (defScope s_Heavyinit) .none kV9 dc9 pm9 an9 cd9 ct9), sl9⟩)
    (e9 : PySem.W.codeIn K cd9 "Heavy.__init__" = true)
    (k9 : PySem.W.keepIn K (.ref f9) = true)
    (a10 : PySem.W.findIn K (.ref CHeavy) "shows" = some (some (.ref f10)))
    (i10 : PySem.W.isFn K (.ref f10) = true)
    (l10 : K.lookup f10 = some ⟨oc10, od10, .func (PySem.W.fnOf "shows" "Heavy.shows" (defArgs s_Heavy_shows) (defBody s_Heavy_shows) (defScope s_Heavy_shows) .none kV10 dc10 pm10 an10 cd10 ct10), sl10⟩)
    (e10 : PySem.W.codeIn K cd10 "Heavy.shows" = true)
    (k10 : PySem.W.keepIn K (.ref f10) = true)
    (a11 : PySem.W.findIn K (.ref CBoats) "__init__" = some (some (.ref f11)))
    (i11 : PySem.W.isFn K (.ref f11) = true)
    (l11 : K.lookup f11 = some ⟨oc11, od11, .func (PySem.W.fnOf "__init__" "Boats.__init__" (defArgs s_Boatsinit) (defBody s_Boatsinit) (defScope s_Boatsinit) .none kV11 dc11 pm11 an11 cd11 ct11), sl11⟩)
    (e11 : PySem.W.codeIn K cd11 "Boats.__init__" = true)
    (k11 : PySem.W.keepIn K (.ref f11) = true)
    (a12 : PySem.W.findIn K (.ref CBoats) "shows" = some (some (.ref f12)))
    (i12 : PySem.W.isFn K (.ref f12) = true)
    (l12 : K.lookup f12 = some ⟨oc12, od12, .func (PySem.W.fnOf "shows" "Boats.shows" (defArgs s_Boats_shows) (defBody s_Boats_shows) (defScope s_Boats_shows) .none kV12 dc12 pm12 an12 cd12 ct12), sl12⟩)
    (e12 : PySem.W.codeIn K cd12 "Boats.shows" = true)
    (k12 : PySem.W.keepIn K (.ref f12) = true)
    (a13 : PySem.W.nsIn K mainGlobals "marks" = some (some (.ref f13)))
    (l13 : K.lookup f13 = some ⟨oc13, od13, .func (PySem.W.fnOf "marks" "marks" (defArgs s_marks) (defBody s_marks) (defScope s_marks) .none kV13 dc13 pm13 an13 cd13 ct13), sl13⟩)
    (e13 : PySem.W.codeIn K cd13 "marks" = true)
    (k13 : PySem.W.keepIn K (.ref f13) = true)
    (a14 : PySem.W.nsIn K mainGlobals "boats_of" = some (some (.ref f14)))
    (l14 : K.lookup f14 = some ⟨oc14, od14, .func (PySem.W.fnOf "boats_of" "boats_of" (defArgs s_boats_of) (defBody s_boats_of) (defScope s_boats_of) .none kV14 dc14 pm14 an14 cd14 ct14), sl14⟩)
    (e14 : PySem.W.codeIn K cd14 "boats_of" = true)
    (k14 : PySem.W.keepIn K (.ref f14) = true)
    (a15 : PySem.W.nsIn K mainGlobals "told" = some (some (.ref f15)))
    (l15 : K.lookup f15 = some ⟨oc15, od15, .func (PySem.W.fnOf "told" "told" (defArgs s_told) (defBody s_told) (defScope s_told) .none kV15 dc15 pm15 an15 cd15 ct15), sl15⟩)
    (e15 : PySem.W.codeIn K cd15 "told" = true)
    (k15 : PySem.W.keepIn K (.ref f15) = true)
    (a16 : PySem.W.nsIn K mainGlobals "least_limit" = some (some (.ref f16)))
    (l16 : K.lookup f16 = some ⟨oc16, od16, .func (PySem.W.fnOf "least_limit" "least_limit" (defArgs s_least_limit) (defBody s_least_limit) (defScope s_least_limit) .none kV16 dc16 pm16 an16 cd16 ct16), sl16⟩)
    (e16 : PySem.W.codeIn K cd16 "least_limit" = true)
    (k16 : PySem.W.keepIn K (.ref f16) = true)
    (a17 : PySem.W.nsIn K mainGlobals "_law_people" = some (some (.ref f17)))
    (l17 : K.lookup f17 = some ⟨oc17, od17, .func (PySem.W.fnOf "_law_people" "_law_people" (defArgs s__law_people) (defBody s__law_people) (defScope s__law_people) .none kV17 dc17 pm17 an17 cd17 ct17), sl17⟩)
    (e17 : PySem.W.codeIn K cd17 "_law_people" = true)
    (k17 : PySem.W.keepIn K (.ref f17) = true)
    (a18 : PySem.W.nsIn K mainGlobals "_law_limit" = some (some (.ref f18)))
    (l18 : K.lookup f18 = some ⟨oc18, od18, .func (PySem.W.fnOf "_law_limit" "_law_limit" (defArgs s__law_limit) (defBody s__law_limit) (defScope s__law_limit) .none kV18 dc18 pm18 an18 cd18 ct18), sl18⟩)
    (e18 : PySem.W.codeIn K cd18 "_law_limit" = true)
    (k18 : PySem.W.keepIn K (.ref f18) = true)
    (a19 : PySem.W.nsIn K mainGlobals "_law_cross" = some (some (.ref f19)))
    (l19 : K.lookup f19 = some ⟨oc19, od19, .func (PySem.W.fnOf "_law_cross" "_law_cross" (defArgs s__law_cross) (defBody s__law_cross) (defScope s__law_cross) .none kV19 dc19 pm19 an19 cd19 ct19), sl19⟩)
    (e19 : PySem.W.codeIn K cd19 "_law_cross" = true)
    (k19 : PySem.W.keepIn K (.ref f19) = true)
    (a20 : PySem.W.nsIn K mainGlobals "_law_bound" = some (some (.ref f20)))
    (l20 : K.lookup f20 = some ⟨oc20, od20, .func (PySem.W.fnOf "_law_bound" "_law_bound" (defArgs s__law_bound) (defBody s__law_bound) (defScope s__law_bound) .none kV20 dc20 pm20 an20 cd20 ct20), sl20⟩)
    (e20 : PySem.W.codeIn K cd20 "_law_bound" = true)
    (k20 : PySem.W.keepIn K (.ref f20) = true)
    (a21 : PySem.W.nsIn K mainGlobals "_law_boats" = some (some (.ref f21)))
    (l21 : K.lookup f21 = some ⟨oc21, od21, .func (PySem.W.fnOf "_law_boats" "_law_boats" (defArgs s__law_boats) (defBody s__law_boats) (defScope s__law_boats) .none kV21 dc21 pm21 an21 cd21 ct21), sl21⟩)
    (e21 : PySem.W.codeIn K cd21 "_law_boats" = true)
    (k21 : PySem.W.keepIn K (.ref f21) = true)
    (a22 : PySem.W.nsIn K mainGlobals "_law_says" = some (some (.ref f22)))
    (l22 : K.lookup f22 = some ⟨oc22, od22, .func (PySem.W.fnOf "_law_says" "_law_says" (defArgs s__law_says) (defBody s__law_says) (defScope s__law_says) .none kV22 dc22 pm22 an22 cd22 ct22), sl22⟩)
    (e22 : PySem.W.codeIn K cd22 "_law_says" = true)
    (k22 : PySem.W.keepIn K (.ref f22) = true)
    (a23 : PySem.W.nsIn K mainGlobals "_law_bent" = some (some (.ref f23)))
    (l23 : K.lookup f23 = some ⟨oc23, od23, .func (PySem.W.fnOf "_law_bent" "_law_bent" (defArgs s__law_bent) (defBody s__law_bent) (defScope s__law_bent) .none kV23 dc23 pm23 an23 cd23 ct23), sl23⟩)
    (e23 : PySem.W.codeIn K cd23 "_law_bent" = true)
    (k23 : PySem.W.keepIn K (.ref f23) = true)
    (a24 : PySem.W.nsIn K mainGlobals "_law_right" = some (some (.ref f24)))
    (l24 : K.lookup f24 = some ⟨oc24, od24, .func (PySem.W.fnOf "_law_right" "_law_right" (defArgs s__law_right) (defBody s__law_right) (defScope s__law_right) .none kV24 dc24 pm24 an24 cd24 ct24), sl24⟩)
    (e24 : PySem.W.codeIn K cd24 "_law_right" = true)
    (k24 : PySem.W.keepIn K (.ref f24) = true)
    (a25 : PySem.W.nsIn K mainGlobals "_law_promises_right" = some (some (.ref f25)))
    (l25 : K.lookup f25 = some ⟨oc25, od25, .func (PySem.W.fnOf "_law_promises_right" "_law_promises_right" (defArgs s__law_promises_right) (defBody s__law_promises_right) (defScope s__law_promises_right) .none kV25 dc25 pm25 an25 cd25 ct25), sl25⟩)
    (e25 : PySem.W.codeIn K cd25 "_law_promises_right" = true)
    (k25 : PySem.W.keepIn K (.ref f25) = true)
    (a26 : PySem.W.nsIn K mainGlobals "law" = some (some (.ref f26)))
    (l26 : K.lookup f26 = some ⟨oc26, od26, .func (PySem.W.fnOf "law" "law" (defArgs s_law) (defBody s_law) (defScope s_law) .none kV26 dc26 pm26 an26 cd26 ct26), sl26⟩)
    (e26 : PySem.W.codeIn K cd26 "law" = true)
    (k26 : PySem.W.keepIn K (.ref f26) = true)
    (pgHeavy : PySem.W.plainGet K CHeavy Str.empty = true)
    (hdHeavy : PySem.W.hasDictIn K CHeavy = true)
    (poHeavy : PySem.W.plainOver K CHeavy = true)
    (saHeavy : PySem.W.findIn K (.ref CHeavy) "__setattr__" = some (some (.builtin "object.__setattr__")))
    (haHeavy : PySem.W.findIn K (.ref CHeavy) "__class__" = some (some (.builtin "object.__class__")))
    (hmHeavy : PySem.W.mroIn K CHeavy (.type "object") = some true)
    (mkHeavy : PySem.W.makesIn K CHeavy = true)
    (kcHeavy : PySem.W.keepIn K (.ref CHeavy) = true)
    (nHeavyperson : PySem.W.findIn K (.ref CHeavy) "person" = some none)
    (pgBoats : PySem.W.plainGet K CBoats Str.empty = true)
    (hdBoats : PySem.W.hasDictIn K CBoats = true)
    (poBoats : PySem.W.plainOver K CBoats = true)
    (saBoats : PySem.W.findIn K (.ref CBoats) "__setattr__" = some (some (.builtin "object.__setattr__")))
    (haBoats : PySem.W.findIn K (.ref CBoats) "__class__" = some (some (.builtin "object.__class__")))
    (hmBoats : PySem.W.mroIn K CBoats (.type "object") = some true)
    (mkBoats : PySem.W.makesIn K CBoats = true)
    (kcBoats : PySem.W.keepIn K (.ref CBoats) = true)
    (nBoatsboats : PySem.W.findIn K (.ref CBoats) "boats" = some none)
    (nBoatsmark : PySem.W.findIn K (.ref CBoats) "mark" = some none)
    (hnO : PySem.W.specialIn K (.builtin "object.__class__") "__get__" = some (some (.builtin "getset_descriptor.__get__")))
    (htO : PySem.W.takesIn K (.builtin "object.__class__") = some true)
    (icAnswer : PySem.W.isClsIn K CAnswer = true)
    (tyAnswer : PySem.W.typeIn K (.ref CAnswer) = some (.type "type"))
    (icHeavy : PySem.W.isClsIn K CHeavy = true)
    (tyHeavy : PySem.W.typeIn K (.ref CHeavy) = some (.type "type"))
    (icBoats : PySem.W.isClsIn K CBoats = true)
    (tyBoats : PySem.W.typeIn K (.ref CBoats) = some (.type "type"))
    (qHeavyAnswer : PySem.W.subIn K (.ref CHeavy) (.ref CAnswer) = some true)
    (qHeavyHeavy : PySem.W.subIn K (.ref CHeavy) (.ref CHeavy) = some true)
    (qHeavyBoats : PySem.W.subIn K (.ref CHeavy) (.ref CBoats) = some false)
    (qBoatsAnswer : PySem.W.subIn K (.ref CBoats) (.ref CAnswer) = some true)
    (qBoatsHeavy : PySem.W.subIn K (.ref CBoats) (.ref CHeavy) = some false)
    (qBoatsBoats : PySem.W.subIn K (.ref CBoats) (.ref CBoats) = some true)
    (xBadPeople : PySem.W.excIn K CBadPeople [.type "ValueError", .type "Exception", .type "BaseException", .type "object"] "ValueError.__new__" = true)
    (kBadPeople : PySem.W.keepIn K (.ref CBadPeople) = true)
    (rBadPeople : PySem.W.subIn K (.ref CBadPeople) (.type "BaseException") = some true)
    (tBadPeople : PySem.W.typeIn K (.ref CBadPeople) = some (.type "type"))
    (xBadLimit : PySem.W.excIn K CBadLimit [.type "ValueError", .type "Exception", .type "BaseException", .type "object"] "ValueError.__new__" = true)
    (kBadLimit : PySem.W.keepIn K (.ref CBadLimit) = true)
    (rBadLimit : PySem.W.subIn K (.ref CBadLimit) (.type "BaseException") = some true)
    (tBadLimit : PySem.W.typeIn K (.ref CBadLimit) = some (.type "type"))
    (xBadBoats : PySem.W.excIn K CBadBoats [.type "ValueError", .type "Exception", .type "BaseException", .type "object"] "ValueError.__new__" = true)
    (kBadBoats : PySem.W.keepIn K (.ref CBadBoats) = true)
    (rBadBoats : PySem.W.subIn K (.ref CBadBoats) (.type "BaseException") = some true)
    (tBadBoats : PySem.W.typeIn K (.ref CBadBoats) = some (.type "type"))
    (zlen : PySem.W.nsIn K mainGlobals "len" = some none)
    (zsum : PySem.W.nsIn K mainGlobals "sum" = some none)
    (zmax : PySem.W.nsIn K mainGlobals "max" = some none)
    (zmin : PySem.W.nsIn K mainGlobals "min" = some none)
    (zsorted : PySem.W.nsIn K mainGlobals "sorted" = some none)
    (zall : PySem.W.nsIn K mainGlobals "all" = some none)
    (zisinstance : PySem.W.nsIn K mainGlobals "isinstance" = some none)
    (zenumerate : PySem.W.nsIn K mainGlobals "enumerate" = some none)
    (zlist : PySem.W.nsIn K mainGlobals "list" = some none)
    (zset : PySem.W.nsIn K mainGlobals "set" = some none)
    (zrange : PySem.W.nsIn K mainGlobals "range" = some none)
    (zint : PySem.W.nsIn K mainGlobals "int" = some none)
    (zbool : PySem.W.nsIn K mainGlobals "bool" = some none) :
    ∃ fd : FuncData, (∀ (s : Shared) (v : Value), BindsTo s fd ⟨[v], []⟩ [("_law_script", v)]) ∧ ∀ base : Heap, K.In base → base.Ns mainGlobals mg → FnOk l.prog w K mg base CX0 6 fa fd ["_law_script"] (sp_law K) := by
  have e := hfa.symm.trans (PySem.W.mg_of X G a26)
  cases e
  have F1 := fun_mk (st := s_is_number) l1 e1 k1
  have b1 := F1.binds (ps := ["thing"]) fun _ _ _ _ _ _ us hl => match us, hl with | [_], _ => rfl
  have F2 := fun_mk (st := s_asked_people) l2 e2 k2
  have b2 := F2.binds (ps := ["weights"]) fun _ _ _ _ _ _ us hl => match us, hl with | [_], _ => rfl
  have F3 := fun_mk (st := s_asked_two) l3 e3 k3
  have b3 := F3.binds (ps := ["weights", "limit"]) fun _ _ _ _ _ _ us hl => match us, hl with | [_, _], _ => rfl
  have F4 := fun_mk (st := s_heavy) l4 e4 k4
  have b4 := F4.binds (ps := ["weights", "limit", "mark"]) fun _ _ _ _ _ _ us hl => match us, hl with | [_, _, _], _ => rfl
  have F5 := fun_mk (st := s_light) l5 e5 k5
  have b5 := F5.binds (ps := ["weights", "mark"]) fun _ _ _ _ _ _ us hl => match us, hl with | [_, _], _ => rfl
  have F6 := fun_mk (st := s_bound) l6 e6 k6
  have b6 := F6.binds (ps := ["weights", "limit", "mark"]) fun _ _ _ _ _ _ us hl => match us, hl with | [_, _, _], _ => rfl
  have F7 := fun_mk (st := s_in_order) l7 e7 k7
  have b7 := F7.binds (ps := ["weights"]) fun _ _ _ _ _ _ us hl => match us, hl with | [_], _ => rfl
  have F8 := fun_mk (st := s_ways) l8 e8 k8
  have b8 := F8.binds (ps := ["weights", "limit"]) fun _ _ _ _ _ _ us hl => match us, hl with | [_, _], _ => rfl
  have F9 := fun_mk (st := s_Heavyinit) l9 e9 k9
  have b9 := F9.binds (ps := ["self", "person"]) fun _ _ _ _ _ _ us hl => match us, hl with | [_, _], _ => rfl
  have F10 := fun_mk (st := s_Heavy_shows) l10 e10 k10
  have b10 := F10.binds (ps := ["self", "weights", "limit"]) fun _ _ _ _ _ _ us hl => match us, hl with | [_, _, _], _ => rfl
  have F11 := fun_mk (st := s_Boatsinit) l11 e11 k11
  have b11 := F11.binds (ps := ["self", "boats", "mark"]) fun _ _ _ _ _ _ us hl => match us, hl with | [_, _, _], _ => rfl
  have F12 := fun_mk (st := s_Boats_shows) l12 e12 k12
  have b12 := F12.binds (ps := ["self", "weights", "limit"]) fun _ _ _ _ _ _ us hl => match us, hl with | [_, _, _], _ => rfl
  have F13 := fun_mk (st := s_marks) l13 e13 k13
  have b13 := F13.binds (ps := ["weights", "limit"]) fun _ _ _ _ _ _ us hl => match us, hl with | [_, _], _ => rfl
  have F14 := fun_mk (st := s_boats_of) l14 e14 k14
  have b14 := F14.binds (ps := ["weights", "limit"]) fun _ _ _ _ _ _ us hl => match us, hl with | [_, _], _ => rfl
  have F15 := fun_mk (st := s_told) l15 e15 k15
  have b15 := F15.binds (ps := ["weights", "limit"]) fun _ _ _ _ _ _ us hl => match us, hl with | [_, _], _ => rfl
  have F16 := fun_mk (st := s_least_limit) l16 e16 k16
  have b16 := F16.binds (ps := ["weights", "boats"]) fun _ _ _ _ _ _ us hl => match us, hl with | [_, _], _ => rfl
  have F17 := fun_mk (st := s__law_people) l17 e17 k17
  have b17 := F17.binds (ps := ["_law_script"]) fun _ _ _ _ _ _ us hl => match us, hl with | [_], _ => rfl
  have F18 := fun_mk (st := s__law_limit) l18 e18 k18
  have b18 := F18.binds (ps := ["_law_script", "_law_weights"]) fun _ _ _ _ _ _ us hl => match us, hl with | [_, _], _ => rfl
  have F19 := fun_mk (st := s__law_cross) l19 e19 k19
  have b19 := F19.binds (ps := ["_law_weights", "_law_limit_here", "_law_boats_here"]) fun _ _ _ _ _ _ us hl => match us, hl with | [_, _, _], _ => rfl
  have F20 := fun_mk (st := s__law_bound) l20 e20 k20
  have b20 := F20.binds (ps := ["_law_weights", "_law_limit_here", "_law_mark"]) fun _ _ _ _ _ _ us hl => match us, hl with | [_, _, _], _ => rfl
  have F21 := fun_mk (st := s__law_boats) l21 e21 k21
  have b21 := F21.binds (ps := ["_law_weights", "_law_limit_here", "_law_boats_here", "_law_mark"]) fun _ _ _ _ _ _ us hl => match us, hl with | [_, _, _, _], _ => rfl
  have F22 := fun_mk (st := s__law_says) l22 e22 k22
  have b22 := F22.binds (ps := ["_law_said", "_law_due"]) fun _ _ _ _ _ _ us hl => match us, hl with | [_, _], _ => rfl
  have F23 := fun_mk (st := s__law_bent) l23 e23 k23
  have b23 := F23.binds (ps := ["_law_boats_here", "_law_cell", "_law_many"]) fun _ _ _ _ _ _ us hl => match us, hl with | [_, _, _], _ => rfl
  have F24 := fun_mk (st := s__law_right) l24 e24 k24
  have b24 := F24.binds (ps := ["_law_weights", "_law_limit_here", "_law_boats_here", "_law_mark"]) fun _ _ _ _ _ _ us hl => match us, hl with | [_, _, _, _], _ => rfl
  have F25 := fun_mk (st := s__law_promises_right) l25 e25 k25
  have b25 := F25.binds (ps := []) fun _ _ _ _ _ _ us hl => match us, hl with | [], _ => rfl
  have F26 := fun_mk (st := s_law) l26 e26 k26
  have b26 := F26.binds (ps := ["_law_script"]) fun _ _ _ _ _ _ us hl => match us, hl with | [_], _ => rfl
  let T : Tab K mg := ⟨PySem.W.mg_none_of X G zlen, PySem.W.mg_none_of X G zsum, PySem.W.mg_none_of X G zmax, PySem.W.mg_none_of X G zmin, PySem.W.mg_none_of X G zsorted, PySem.W.mg_none_of X G zall, PySem.W.mg_none_of X G zisinstance, PySem.W.mg_none_of X G zenumerate, PySem.W.mg_none_of X G zlist, PySem.W.mg_none_of X G zset, PySem.W.mg_none_of X G zrange, PySem.W.mg_none_of X G zint, PySem.W.mg_none_of X G zbool, CAnswer, CHeavy, CBoats, CBoatError, CBadPeople, CBadLimit, CBadBoats, f1, _, F1, b1, PySem.W.mg_of X G a1, f2, _, F2, b2, PySem.W.mg_of X G a2, f3, _, F3, b3, PySem.W.mg_of X G a3, f4, _, F4, b4, PySem.W.mg_of X G a4, f5, _, F5, b5, PySem.W.mg_of X G a5, f6, _, F6, b6, PySem.W.mg_of X G a6, f7, _, F7, b7, PySem.W.mg_of X G a7, f8, _, F8, b8, PySem.W.mg_of X G a8, f9, _, F9, b9, f10, _, F10, b10, f11, _, F11, b11, f12, _, F12, b12, f13, _, F13, b13, PySem.W.mg_of X G a13, f14, _, F14, b14, PySem.W.mg_of X G a14, f15, _, F15, b15, PySem.W.mg_of X G a15, f16, _, F16, b16, PySem.W.mg_of X G a16, f17, _, F17, b17, PySem.W.mg_of X G a17, f18, _, F18, b18, PySem.W.mg_of X G a18, f19, _, F19, b19, PySem.W.mg_of X G a19, f20, _, F20, b20, PySem.W.mg_of X G a20, f21, _, F21, b21, PySem.W.mg_of X G a21, f22, _, F22, b22, PySem.W.mg_of X G a22, f23, _, F23, b23, PySem.W.mg_of X G a23, f24, _, F24, b24, PySem.W.mg_of X G a24, f25, _, F25, b25, PySem.W.mg_of X G a25, fa, _, F26, b26, PySem.W.mg_of X G a26, PySem.W.mg_of X G aCAnswer, PySem.W.mg_of X G aCHeavy, ⟨⟨pgHeavy, hdHeavy, poHeavy, saHeavy⟩, haHeavy, hnO, htO, hmHeavy⟩, nHeavyperson, ⟨mkHeavy, a9, i9, kcHeavy⟩, ⟨a10, i10, k10⟩, PySem.W.mg_of X G aCBoats, ⟨⟨pgBoats, hdBoats, poBoats, saBoats⟩, haBoats, hnO, htO, hmBoats⟩, nBoatsboats, nBoatsmark, ⟨mkBoats, a11, i11, kcBoats⟩, ⟨a12, i12, k12⟩, kit_sub icAnswer tyAnswer qHeavyAnswer (fun z => nomatch z), kit_same, kit_sub icBoats tyBoats qHeavyBoats (fun _ => qHeavyHeavy), kit_sub icAnswer tyAnswer qBoatsAnswer (fun z => nomatch z), kit_sub icHeavy tyHeavy qBoatsHeavy (fun _ => qBoatsBoats), kit_same, PySem.W.mg_of X G aCBoatError, PySem.W.mg_of X G aCBadPeople, xBadPeople, kBadPeople, rBadPeople, tBadPeople, PySem.W.mg_of X G aCBadLimit, xBadLimit, kBadLimit, rBadLimit, tBadLimit, PySem.W.mg_of X G aCBadBoats, xBadBoats, kBadBoats, rBadBoats, tBadBoats⟩
  exact ⟨_, fun s v => .of_eq rfl, fun base _ _ => ok_law T⟩
theorem walk {l : PySem.W.OpenLaw} {q : Program} {loose : List Str} {XP : (Str → Option Value) → Heap → Prop} {YP : World → Heap → Prop} {d : DefRec} {K : Params → PySem.W.Frag} (hn : l.most = some 63) (hdf : d.params.defaults = [])
    (hY : ∀ (w : World) (h : Heap), YP w h → (K w.params).In h)
    (F : ∀ (w : World) (mg : Str → Option Value) (fa : Addr) (h : Heap), (K w.params).In h → h.Ns mainGlobals mg → mg d.name = some (.ref fa) →
      ∃ fd : FuncData, (∀ (s : Shared) (u : Value), BindsTo s fd ⟨[u], []⟩ [("_law_script", u)]) ∧ ∀ base : Heap, (K w.params).In base → base.Ns mainGlobals mg → FnOk l.prog w (K w.params) mg base CX0 6 fa fd ["_law_script"] (sp_law (K w.params))) :
    PySem.W.WalkO q loose XP YP l.row.toRowW d [] (fun f vs => PySem.call f vs) :=
  L2.walk_of (n := 63) (k := 6) (x := "_law_script") (CX := fun _ => CX0) (sp := fun w => sp_law (K w.params)) hn (by decide) hdf ⟨rfl, by decide, by decide⟩ hY F (fun _ _ a ns hl _ hS => ⟨a, ns, rfl, hS, hl, fun _ => rfl⟩) fun _ _ _ _ _ z => z
end Bt
open PySem PySem.W PyProof.Rows in
set_option maxRecDepth 100000 in
set_option maxHeartbeats 0 in
theorem PySem.Challenge.cw_boatpairs_k05_answers_by_hand_holds : PySem.Challenge.rw_boatpairs_k05_answers_by_hand.Holds := by
  w_on; o_law; k_head; (case hw => w_witness2)
  k_fill
  refine Bt.walk (l := PySem.Challenge.rw_boatpairs_k05_answers_by_hand) rfl rfl (fun w h Y => PySem.W.kIn_of Y) ?F
  case F =>
    intro w mg fa h KX G hmg
    refine' Bt.all_mk KX G hmg ?aCAnswer ?aCHeavy ?aCBoats ?aCBoatError ?aCBadPeople ?aCBadLimit ?aCBadBoats ?a1 ?l1 ?e1 ?k1 ?a2 ?l2 ?e2 ?k2 ?a3 ?l3 ?e3 ?k3 ?a4 ?l4 ?e4 ?k4 ?a5 ?l5 ?e5 ?k5 ?a6 ?l6 ?e6 ?k6 ?a7 ?l7 ?e7 ?k7 ?a8 ?l8 ?e8 ?k8 ?a9 ?i9 ?l9 ?e9 ?k9 ?a10 ?i10 ?l10 ?e10 ?k10 ?a11 ?i11 ?l11 ?e11 ?k11 ?a12 ?i12 ?l12 ?e12 ?k12 ?a13 ?l13 ?e13 ?k13 ?a14 ?l14 ?e14 ?k14 ?a15 ?l15 ?e15 ?k15 ?a16 ?l16 ?e16 ?k16 ?a17 ?l17 ?e17 ?k17 ?a18 ?l18 ?e18 ?k18 ?a19 ?l19 ?e19 ?k19 ?a20 ?l20 ?e20 ?k20 ?a21 ?l21 ?e21 ?k21 ?a22 ?l22 ?e22 ?k22 ?a23 ?l23 ?e23 ?k23 ?a24 ?l24 ?e24 ?k24 ?a25 ?l25 ?e25 ?k25 ?a26 ?l26 ?e26 ?k26 ?pgHeavy ?hdHeavy ?poHeavy ?saHeavy ?haHeavy ?hmHeavy ?mkHeavy ?kcHeavy ?nHeavyperson ?pgBoats ?hdBoats ?poBoats ?saBoats ?haBoats ?hmBoats ?mkBoats ?kcBoats ?nBoatsboats ?nBoatsmark ?hnO ?htO ?icAnswer ?tyAnswer ?icHeavy ?tyHeavy ?icBoats ?tyBoats ?qHeavyAnswer ?qHeavyHeavy ?qHeavyBoats ?qBoatsAnswer ?qBoatsHeavy ?qBoatsBoats ?xBadPeople ?kBadPeople ?rBadPeople ?tBadPeople ?xBadLimit ?kBadLimit ?rBadLimit ?tBadLimit ?xBadBoats ?kBadBoats ?rBadBoats ?tBadBoats ?zlen ?zsum ?zmax ?zmin ?zsorted ?zall ?zisinstance ?zenumerate ?zlist ?zset ?zrange ?zint ?zbool
    (case aCAnswer => k_is)
    (case aCHeavy => k_is)
    (case aCBoats => k_is)
    (case aCBoatError => k_is)
    (case aCBadPeople => k_is)
    (case aCBadLimit => k_is)
    (case aCBadBoats => k_is)
    (case a1 => k_is)
    (case l1 => k_is)
    (case e1 => k_is)
    (case k1 => k_is)
    (case a2 => k_is)
    (case l2 => k_is)
    (case e2 => k_is)
    (case k2 => k_is)
    (case a3 => k_is)
    (case l3 => k_is)
    (case e3 => k_is)
    (case k3 => k_is)
    (case a4 => k_is)
    (case l4 => k_is)
    (case e4 => k_is)
    (case k4 => k_is)
    (case a5 => k_is)
    (case l5 => k_is)
    (case e5 => k_is)
    (case k5 => k_is)
    (case a6 => k_is)
    (case l6 => k_is)
    (case e6 => k_is)
    (case k6 => k_is)
    (case a7 => k_is)
    (case l7 => k_is)
    (case e7 => k_is)
    (case k7 => k_is)
    (case a8 => k_is)
    (case l8 => k_is)
    (case e8 => k_is)
    (case k8 => k_is)
    (case a9 => k_is)
    (case i9 => k_is)
    (case l9 => k_is)
    (case e9 => k_is)
    (case k9 => k_is)
    (case a10 => k_is)
    (case i10 => k_is)
    (case l10 => k_is)
    (case e10 => k_is)
    (case k10 => k_is)
    (case a11 => k_is)
    (case i11 => k_is)
    (case l11 => k_is)
    (case e11 => k_is)
    (case k11 => k_is)
    (case a12 => k_is)
    (case i12 => k_is)
    (case l12 => k_is)
    (case e12 => k_is)
    (case k12 => k_is)
    (case a13 => k_is)
    (case l13 => k_is)
    (case e13 => k_is)
    (case k13 => k_is)
    (case a14 => k_is)
    (case l14 => k_is)
    (case e14 => k_is)
    (case k14 => k_is)
    (case a15 => k_is)
    (case l15 => k_is)
    (case e15 => k_is)
    (case k15 => k_is)
    (case a16 => k_is)
    (case l16 => k_is)
    (case e16 => k_is)
    (case k16 => k_is)
    (case a17 => k_is)
    (case l17 => k_is)
    (case e17 => k_is)
    (case k17 => k_is)
    (case a18 => k_is)
    (case l18 => k_is)
    (case e18 => k_is)
    (case k18 => k_is)
    (case a19 => k_is)
    (case l19 => k_is)
    (case e19 => k_is)
    (case k19 => k_is)
    (case a20 => k_is)
    (case l20 => k_is)
    (case e20 => k_is)
    (case k20 => k_is)
    (case a21 => k_is)
    (case l21 => k_is)
    (case e21 => k_is)
    (case k21 => k_is)
    (case a22 => k_is)
    (case l22 => k_is)
    (case e22 => k_is)
    (case k22 => k_is)
    (case a23 => k_is)
    (case l23 => k_is)
    (case e23 => k_is)
    (case k23 => k_is)
    (case a24 => k_is)
    (case l24 => k_is)
    (case e24 => k_is)
    (case k24 => k_is)
    (case a25 => k_is)
    (case l25 => k_is)
    (case e25 => k_is)
    (case k25 => k_is)
    (case a26 => k_is)
    (case l26 => k_is)
    (case e26 => k_is)
    (case k26 => k_is)
    (case pgHeavy => k_is)
    (case hdHeavy => k_is)
    (case poHeavy => k_is)
    (case saHeavy => k_is)
    (case haHeavy => k_is)
    (case hmHeavy => k_is)
    (case mkHeavy => k_is)
    (case kcHeavy => k_is)
    (case nHeavyperson => k_is)
    (case pgBoats => k_is)
    (case hdBoats => k_is)
    (case poBoats => k_is)
    (case saBoats => k_is)
    (case haBoats => k_is)
    (case hmBoats => k_is)
    (case mkBoats => k_is)
    (case kcBoats => k_is)
    (case nBoatsboats => k_is)
    (case nBoatsmark => k_is)
    (case hnO => k_is)
    (case htO => k_is)
    (case icAnswer => k_is)
    (case tyAnswer => k_is)
    (case icHeavy => k_is)
    (case tyHeavy => k_is)
    (case icBoats => k_is)
    (case tyBoats => k_is)
    (case qHeavyAnswer => k_is)
    (case qHeavyHeavy => k_is)
    (case qHeavyBoats => k_is)
    (case qBoatsAnswer => k_is)
    (case qBoatsHeavy => k_is)
    (case qBoatsBoats => k_is)
    (case xBadPeople => k_exc)
    (case kBadPeople => k_is)
    (case rBadPeople => k_is)
    (case tBadPeople => k_is)
    (case xBadLimit => k_exc)
    (case kBadLimit => k_is)
    (case rBadLimit => k_is)
    (case tBadLimit => k_is)
    (case xBadBoats => k_exc)
    (case kBadBoats => k_is)
    (case rBadBoats => k_is)
    (case tBadBoats => k_is)
    (case zlen => k_is)
    (case zsum => k_is)
    (case zmax => k_is)
    (case zmin => k_is)
    (case zsorted => k_is)
    (case zall => k_is)
    (case zisinstance => k_is)
    (case zenumerate => k_is)
    (case zlist => k_is)
    (case zset => k_is)
    (case zrange => k_is)
    (case zint => k_is)
    (case zbool => k_is)
