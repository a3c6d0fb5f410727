import PyProof.Rows.All
import Wide.All
import OpenK.AllK
import Wide.FinOn
import HandS.ForMost
import HandS.Exc
import HandS.Deep
import HandS.Codes
import HandS.DictTup
import HandS.DictComp
import HandS.IsInst
import HandS.Conv
import HandS.Style
import HandS.ClsMeth
import HandS.Defaults
import HandS.Star
import HandS.CallSlots
import KE.SortData
import HandS.MakeKwOnly
import KE.KSuperObj
import KE.KSuper
import HandS.Nested
import HandS.TupLen
import HandS.GenList
import HandS.Zip
import KE.GoesEnum
import HandS.ExcInit
import HandS.ExcField
import HandS.Lambda
import HandS.HotCalls
import KE.KTryMore
import HandS.Head0
import HandS.Head1
import HandS.Head2
import HandS.HeadEnd
import HandS.HeadHook1
import HandS.HeadHook2
import HandS.HeadHook3
import HandS.HeadHook4
import HandS.HeadWalk
import PySem.Challenge.RW_highestsky_k66_whole_ways_listed
set_option Elab.async false
set_option linter.all false
set_option maxRecDepth 100000
set_option maxHeartbeats 4000000
/-! The evaluator layer: data as a whole, items, what a reading evaluates to. -/
namespace Sky
open PySem PySem.Spec PyProof.Rows L2

/-! ### data that stands in tracked lists and tuples -/
mutual
inductive Rp (H : Hp) : V → PyData → Prop
  | non : Rp H .non .none
  | bl (b : Bool) : Rp H (.bl b) (.bool b)
  | int (i : Int) : Rp H (.int i) (.int i)
  | str (x : Str) : Rp H (.str x) (.str x)
  | lst {a : Addr} {xs : List V} {ds : List PyData} : H a = some (.lst xs) → RpA H xs ds → Rp H (.ref a) (.list ds)
  | tup {a : Addr} {xs : List V} {ds : List PyData} : H a = some (.tup xs) → RpA H xs ds → Rp H (.ref a) (.tuple ds)
inductive RpA (H : Hp) : List V → List PyData → Prop
  | nil : RpA H [] []
  | cons {v : V} {vs : List V} {d : PyData} {ds : List PyData} : Rp H v d → RpA H vs ds → RpA H (v :: vs) (d :: ds)
end
/-- lists and tuples stay -/
def Sd (H H' : Hp) : Prop := (∀ b xs, H b = some (.lst xs) → H' b = some (.lst xs)) ∧ ∀ b xs, H b = some (.tup xs) → H' b = some (.tup xs)
theorem Sd.of {H H' : Hp} (s : Same H H') : Sd H H' := ⟨fun b _ e => s b _ e, fun b _ e => s b _ e⟩
theorem Sd.refl (H : Hp) : Sd H H := ⟨fun _ _ e => e, fun _ _ e => e⟩
theorem Sd.trans {A B C : Hp} (a : Sd A B) (b : Sd B C) : Sd A C := ⟨fun x xs e => b.1 x xs (a.1 x xs e), fun x xs e => b.2 x xs (a.2 x xs e)⟩
/-- what is written is no list and no tuple -/
def NoSeq (o : Option HO) : Prop := match o with
  | some (.lst _) => False
  | some (.tup _) => False
  | _ => True
theorem Sd.upd {H : Hp} {a : Addr} {o : HO} (n : NoSeq (H a)) : Sd H (upd H a o) := by
  refine ⟨fun b xs e => ?_, fun b xs e => ?_⟩
  all_goals
    by_cases h : b = a
    · subst h
      rw [e] at n
      exact n.elim
    · rw [upd_ne h]
      exact e
mutual
theorem Rp.mono {H H' : Hp} (s : Sd H H') : ∀ {d : PyData} {v : V}, Rp H v d → Rp H' v d
  | .none, _, .non => .non
  | .bool b, _, .bl _ => .bl b
  | .int i, _, .int _ => .int i
  | .str x, _, .str _ => .str x
  | .list ds, _, .lst e r => .lst (s.1 _ _ e) (RpA.mono s r)
  | .tuple ds, _, .tup e r => .tup (s.2 _ _ e) (RpA.mono s r)
theorem RpA.mono {H H' : Hp} (s : Sd H H') : ∀ {ds : List PyData} {vs : List V}, RpA H vs ds → RpA H' vs ds
  | [], _, .nil => .nil
  | d :: ds, _, .cons r t => .cons (Rp.mono s r) (RpA.mono s t)
end
mutual
theorem Rp.dp {K : PySem.W.Frag} {H : Hp} : ∀ {d : PyData} {v : V}, Rp H v d → Dp K H v d
  | .none, _, .non => .non
  | .bool b, _, .bl _ => .bl b
  | .int i, _, .int _ => .int i
  | .str x, _, .str _ => .str x
  | .list ds, _, .lst e r => .lst (SqL.of e) (RpA.dp r)
  | .tuple ds, _, .tup e r => .tup (SqT.of e) (RpA.dp r)
theorem RpA.dp {K : PySem.W.Frag} {H : Hp} : ∀ {ds : List PyData} {vs : List V}, RpA H vs ds → DpAll K H vs ds
  | [], _, .nil => .nil
  | d :: ds, _, .cons r t => .cons (Rp.dp r) (RpA.dp t)
end
section
variable {H H' : Hp} {v : V} {vs ws : List V} {d : PyData} {ds es : List PyData}
theorem Rp.int_eq {i : Int} (r : Rp H v (.int i)) : v = .int i := by cases r; rfl
theorem Rp.bl_eq {b : Bool} (r : Rp H v (.bool b)) : v = .bl b := by cases r; rfl
theorem Rp.str_eq {x : Str} (r : Rp H v (.str x)) : v = .str x := by cases r; rfl
theorem Rp.non_eq (r : Rp H v .none) : v = .non := by cases r; rfl
theorem Rp.lst_eq (r : Rp H v (.list ds)) : ∃ a xs, v = .ref a ∧ H a = some (.lst xs) ∧ RpA H xs ds := by
  cases r with
  | lst e r => exact ⟨_, _, rfl, e, r⟩
theorem Rp.tup_eq (r : Rp H v (.tuple ds)) : ∃ a xs, v = .ref a ∧ H a = some (.tup xs) ∧ RpA H xs ds := by
  cases r with
  | tup e r => exact ⟨_, _, rfl, e, r⟩
theorem RpA.length : ∀ {vs : List V} {ds : List PyData}, RpA H vs ds → vs.length = ds.length
  | _, _, .nil => rfl
  | _, _, .cons _ t => congrArg (· + 1) t.length
theorem RpA.app : ∀ {vs ws : List V} {ds es : List PyData}, RpA H vs ds → RpA H ws es → RpA H (vs ++ ws) (ds ++ es)
  | _, _, _, _, .nil, s => s
  | _, _, _, _, .cons r t, s => .cons r (t.app s)
theorem RpA.one (r : Rp H v d) : RpA H [v] [d] := .cons r .nil
theorem RpA.get : ∀ {vs : List V} {ds : List PyData} {i : Nat} {d : PyData}, RpA H vs ds → ds[i]? = some d → ∃ v, vs[i]? = some v ∧ Rp H v d
  | _, _, _, _, .nil, e => by simp at e
  | _, _, 0, d, .cons r _, e => by
    have q := Option.some.inj e
    subst q
    exact ⟨_, rfl, r⟩
  | _, _, i + 1, d, .cons _ t, e => by
    obtain ⟨v, h1, h2⟩ := t.get (i := i) (d := d) (by simpa using e)
    exact ⟨v, by simpa using h1, h2⟩
theorem RpA.getV : ∀ {vs : List V} {ds : List PyData} {i : Nat} {v : V}, RpA H vs ds → vs[i]? = some v → ∃ d, ds[i]? = some d ∧ Rp H v d
  | _, _, _, _, .nil, e => by simp at e
  | _, _, 0, d, .cons r _, e => by
    have q := Option.some.inj e
    subst q
    exact ⟨_, rfl, r⟩
  | _, _, i + 1, d, .cons _ t, e => by
    obtain ⟨v, h1, h2⟩ := t.getV (i := i) (v := d) (by simpa using e)
    exact ⟨v, by simpa using h1, h2⟩
theorem RpA.take : ∀ {vs : List V} {ds : List PyData} (n : Nat), RpA H vs ds → RpA H (vs.take n) (ds.take n)
  | _, _, 0, _ => .nil
  | _, _, _ + 1, .nil => .nil
  | _, _, n + 1, .cons r t => .cons r (t.take n)
theorem RpA.drop : ∀ {vs : List V} {ds : List PyData} (n : Nat), RpA H vs ds → RpA H (vs.drop n) (ds.drop n)
  | _, _, 0, r => r
  | _, _, _ + 1, .nil => .nil
  | _, _, n + 1, .cons _ t => t.drop n
theorem RpA.rev (r : RpA H vs ds) : RpA H vs.reverse ds.reverse := by
  induction ds generalizing vs with
  | nil => cases r; exact .nil
  | cons d ds ih =>
    cases r with
    | cons r t =>
      rw [List.reverse_cons, List.reverse_cons]
      exact (ih t).app (.one r)
theorem RpA.set (r : RpA H vs ds) (i : Nat) (q : Rp H v d) : RpA H (vs.set i v) (ds.set i d) := by
  induction ds generalizing vs i with
  | nil => cases r; exact .nil
  | cons e ds ih =>
    cases r with
    | cons r t =>
      cases i with
      | zero => exact .cons q t
      | succ i => exact .cons r (ih t i)
theorem RpA.last (r : RpA H vs ds) (e : ds[ds.length - 1]? = some d) : ∃ v, vs[vs.length - 1]? = some v ∧ Rp H v d := by
  rw [r.length]
  exact r.get e
end

/-! ### items: what is known of a value and stays known -/
structure Item where
  P : V → Hp → Prop
  mono : ∀ {v : V} {H H' : Hp}, Same H H' → P v H → P v H'
def dt (d : PyData) : Item := ⟨fun v H => Rp H v d, fun s r => r.mono (Sd.of s)⟩
/-- this very value -/
def xv (x : V) : Item := ⟨fun v _ => v = x, fun _ r => r⟩
/-- an item of a kind -/
def exI {ι : Type} (I : ι → Item) (p : ι → Prop) : Item := ⟨fun v H => ∃ i, p i ∧ (I i).P v H, fun s ⟨i, h, r⟩ => ⟨i, h, (I i).mono s r⟩⟩
def andI (I J : Item) : Item := ⟨fun v H => I.P v H ∧ J.P v H, fun s ⟨a, b⟩ => ⟨I.mono s a, J.mono s b⟩⟩
inductive ItA (H : Hp) : List V → List Item → Prop
  | nil : ItA H [] []
  | cons {v : V} {vs : List V} {I : Item} {Is : List Item} : I.P v H → ItA H vs Is → ItA H (v :: vs) (I :: Is)
theorem ItA.mono {H H' : Hp} (s : Same H H') : ∀ {vs : List V} {Is : List Item}, ItA H vs Is → ItA H' vs Is
  | _, _, .nil => .nil
  | _, _, .cons r t => .cons (Item.mono _ s r) (t.mono s)
theorem ItA.length {H : Hp} : ∀ {vs : List V} {Is : List Item}, ItA H vs Is → vs.length = Is.length
  | _, _, .nil => rfl
  | _, _, .cons _ t => congrArg (· + 1) t.length
theorem ItA.app {H : Hp} : ∀ {vs ws : List V} {Is Js : List Item}, ItA H vs Is → ItA H ws Js → ItA H (vs ++ ws) (Is ++ Js)
  | _, _, _, _, .nil, s => s
  | _, _, _, _, .cons r t, s => .cons r (t.app s)
theorem ItA.data {H : Hp} : ∀ {ds : List PyData} {vs : List V}, ItA H vs (ds.map dt) → RpA H vs ds
  | [], _, .nil => .nil
  | _ :: _, _, .cons r t => .cons r t.data

/-! ### the base (what is known, never written again) and the heap as it stands; both grow -/
/-- not a tuple -/
def NoTup (o : HO) : Prop := ∀ xs, o ≠ .tup xs
/-- from the base A in the heap A1 to the base B in the heap B1: all stays; the base takes in new objects and tuples alone -/
structure Grow (A A1 B B1 : Hp) : Prop where
  base : Same A B
  top : Same A1 B1
  sub : Same B B1
  new : ∀ a o, A a = none → A1 a = some o → NoTup o → B a = none
theorem Grow.refl {A A1 : Hp} (s : Same A A1) : Grow A A1 A A1 := ⟨Same.refl A, Same.refl A1, s, fun _ _ h _ _ => h⟩
theorem same_some {A B : Hp} (s : Same A B) {a : Addr} (h : A a ≠ none) : B a ≠ none := fun e => by
  cases q : A a with
  | none => exact h q
  | some o =>
    rw [s a o q] at e
    cases e
theorem Grow.trans {A A1 B B1 C C1 : Hp} (g : Grow A A1 B B1) (h : Grow B B1 C C1) : Grow A A1 C C1 :=
  ⟨g.base.trans h.base, g.top.trans h.top, h.sub, fun a o e n t => h.new a o (g.new a o e n t) (g.top _ _ n) t⟩
theorem same_new {H : Hp} {p : Addr} {o : HO} (h : H p = none) : Same H (upd H p o) := fun b u e => by
  rw [upd_ne (ne_of_none e h)]
  exact e
/-- an object that the base does not know is written -/
theorem Same.put {A H : Hp} {p : Addr} {o : HO} (s : Same A H) (h : A p = none) : Same A (upd H p o) := fun b u e => by
  rw [upd_ne (ne_of_none e h)]
  exact s b u e
theorem Same.both {A H : Hp} {p : Addr} {o : HO} (s : Same A H) : Same (upd A p o) (upd H p o) := fun b u e => by
  by_cases h : b = p
  · subst h
    rw [upd_same] at e ⊢
    exact e
  · rw [upd_ne h] at e ⊢
    exact s b u e
/-- a new object, known from now on -/
theorem Grow.alloc {A A1 : Hp} {p : Addr} {o : HO} (s : Same A A1) (h : A1 p = none) : Grow A A1 (upd A p o) (upd A1 p o) :=
  ⟨same_new (Same.free s h), same_new h, Same.both s, fun a u e n t => by
    by_cases q : a = p
    · subst q
      rw [h] at n
      cases n
    · rw [upd_ne q]
      exact e⟩
/-- both bases together -/
def un (A B : Hp) : Hp := fun a => match A a with
  | some o => some o
  | none => B a
theorem un_left {A B : Hp} : Same A (un A B) := fun a o e => by
  unfold un
  rw [e]
theorem un_right {A B C : Hp} (sa : Same A C) (sb : Same B C) : Same B (un A B) := fun a o e => by
  unfold un
  cases q : A a with
  | none => exact e
  | some u =>
    have h1 := sa a u q
    rw [sb a o e] at h1
    exact h1.symm
theorem un_sub {A B C : Hp} (sa : Same A C) (sb : Same B C) : Same (un A B) C := fun a o e => by
  unfold un at e
  cases q : A a with
  | none =>
    rw [q] at e
    exact sb a o e
  | some u =>
    rw [q] at e
    have e' : u = o := Option.some.inj e
    subst e'
    exact sa a u q
theorem un_none {A B : Hp} {a : Addr} (h : A a = none) (k : B a = none) : un A B a = none := by
  unfold un
  rw [h]
  exact k

/-! ### what evaluates to what -/
def Ev (te : TE) (σ : L2.St) (H : Hp) (I : Item) : Prop := ∀ H1, Same H H1 → ∀ Q : VK, (∀ v B H2, Grow H H1 B H2 → I.P v B → Q v H2) → te σ H1 Q
def EvT (tt : TT) (σ : L2.St) (H : Hp) (b : Bool) : Prop := ∀ H1, Same H H1 → ∀ Q : Bool → Hp → Prop, (∀ B H2, Grow H H1 B H2 → Q b H2) → tt σ H1 Q
def EvA (ta : TA) (σ : L2.St) (H : Hp) (Is : List Item) : Prop := ∀ H1, Same H H1 → ∀ Q : List V → Hp → Prop, (∀ vs B H2, Grow H H1 B H2 → ItA B vs Is → Q vs H2) → ta σ H1 Q
def EvO (to : TO) (σ : L2.St) (H : Hp) (o : Option Int) : Prop := ∀ H1, Same H H1 → ∀ Q : Option Int → Hp → Prop, (∀ B H2, Grow H H1 B H2 → Q o H2) → to σ H1 Q
abbrev EvD (te : TE) (σ : L2.St) (H : Hp) (d : PyData) : Prop := Ev te σ H (dt d)
abbrev EvV (te : TE) (σ : L2.St) (H : Hp) (v : V) : Prop := Ev te σ H (xv v)
/-- a two-place operation by values: from items to an item -/
def RvI (r : R2) (I J L : Item) : Prop := ∀ x y A H, Same A H → I.P x A → J.P y A → ∀ Q : VK, (∀ v B H2, Grow A H B H2 → L.P v B → Q v H2) → r x y H Q
/-- a call by values -/
def RcI (r : List V → Hp → VK → Prop) (Is : List Item) (L : Item) : Prop := ∀ vs A H, Same A H → ItA A vs Is → ∀ Q : VK, (∀ v B H2, Grow A H B H2 → L.P v B → Q v H2) → r vs H Q
theorem Grow.mono {A A' H1 B H2 : Hp} (s : Same A A') (s1 : Same A' H1) (g : Grow A H1 B H2) : Grow A' H1 (un B A') H2 :=
  ⟨un_right g.sub (s1.trans g.top), g.top, un_sub g.sub (s1.trans g.top), fun a u e n t => un_none (g.new a u (s.free e) n t) e⟩
section
variable {K : PySem.W.Frag} {σ : L2.St} {H H' : Hp} {ta tb tc te : TE} {tr : TA} {t u : TT} {x y z v : V} {r r' : R2} {I J L : Item} {Is : List Item} {d e f : PyData} {ds es : List PyData} {b c : Bool} {i j : Int}
theorem Ev.mono (s : Same H H') (h : Ev te σ H I) : Ev te σ H' I := fun H1 a Q q => h H1 (s.trans a) Q fun v B H2 g p => q v _ H2 (g.mono s a) (I.mono un_left p)
theorem EvT.mono (s : Same H H') (h : EvT t σ H b) : EvT t σ H' b := fun H1 a Q q => h H1 (s.trans a) Q fun B H2 g => q _ H2 (g.mono s a)
theorem EvA.mono (s : Same H H') (h : EvA tr σ H Is) : EvA tr σ H' Is := fun H1 a Q q => h H1 (s.trans a) Q fun v B H2 g p => q v _ H2 (g.mono s a) (p.mono un_left)
theorem EvO.mono {to : TO} {o : Option Int} (s : Same H H') (h : EvO to σ H o) : EvO to σ H' o := fun H1 a Q q => h H1 (s.trans a) Q fun B H2 g => q _ H2 (g.mono s a)
theorem Ev.imp (h : Ev te σ H I) (k : ∀ v H, I.P v H → J.P v H) : Ev te σ H J := fun H1 a Q q => h H1 a Q fun v B H2 s p => q v B H2 s (k v B p)
theorem Ev.is {d' : PyData} (h : EvD te σ H d) (e : d = d') : EvD te σ H d' := e ▸ h
theorem EvT.is (h : EvT t σ H b) (e : b = c) : EvT t σ H c := e ▸ h
/-- a name's slot -/
theorem ev_var {n : Nat} (p : I.P v H) (h : σ[n]? = some (some v) := by rfl) : Ev (tVar n) σ H I := fun H1 s Q q => ⟨v, h, q v H H1 (Grow.refl s) p⟩
theorem ev_c (p : I.P v H) : Ev (tC v) σ H I := fun H1 s Q q => q v H H1 (Grow.refl s) p
theorem ev_int : EvD (tC (.int i)) σ H (.int i) := ev_c (.int i)
theorem ev_bl : EvD (tC (.bl b)) σ H (.bool b) := ev_c (.bl b)
theorem ev_non : EvD (tC .non) σ H .none := ev_c .non
theorem ev_str {x : Str} : EvD (tC (.str x)) σ H (.str x) := ev_c (.str x)
/-- one after the other -/
theorem Ev.then {R : V → Hp → Prop} {H1 : Hp} {Q : V → Hp → Prop} (h : Ev te σ H I) (s : Same H H1) (k : ∀ v B H2, Grow H H1 B H2 → I.P v B → Q v H2) : te σ H1 Q := h H1 s Q k
theorem ev_op (ha : Ev ta σ H I) (hb : Ev tb σ H J) (hr : RvI r I J L) : Ev (tOp r ta tb) σ H L := fun H1 s Q q =>
  ha H1 s _ fun x B2 H2 g2 p2 => hb.mono g2.base H2 g2.sub _ fun y B3 H3 g3 p3 => hr x y B3 H3 g3.sub (I.mono g3.base p2) p3 Q fun v B4 H4 g4 p4 => q v B4 H4 ((g2.trans g3).trans g4) p4
theorem ea_nil : EvA tNil σ H [] := fun H1 s _ q => q [] H H1 (Grow.refl s) .nil
theorem ea_cons (h : Ev te σ H I) (hr : EvA tr σ H Is) : EvA (tCons te tr) σ H (I :: Is) := fun H1 s Q q =>
  h H1 s _ fun v B2 H2 g2 p2 => hr.mono g2.base H2 g2.sub _ fun vs B3 H3 g3 p3 => q (v :: vs) B3 H3 (g2.trans g3) (.cons (I.mono g3.base p2) p3)
theorem ea1 (h : Ev te σ H I) : EvA (tCons te tNil) σ H [I] := ea_cons h ea_nil
theorem ev_tup {tr : TA} (h : EvA tr σ H (ds.map dt)) (hl : ds.length ≤ 100000) : EvD (tTup tr) σ H (.tuple ds) := fun H1 s Q q =>
  h H1 s _ fun vs B2 H2 g2 p2 => ⟨by rw [p2.data.length]; exact Nat.le_trans hl (by decide), fun p hp => q _ _ _ (g2.trans (Grow.alloc g2.sub hp)) (.tup upd_same (p2.data.mono (Sd.of (same_new (g2.sub.free hp)))))⟩
theorem ev_lst {tr : TA} (h : EvA tr σ H (ds.map dt)) (hl : ds.length ≤ 100000) : EvD (tLst tr) σ H (.list ds) := fun H1 s Q q =>
  h H1 s _ fun vs B2 H2 g2 p2 => ⟨by rw [p2.data.length]; exact Nat.le_trans hl (by decide), fun p hp => q _ _ _ (g2.trans (Grow.alloc g2.sub hp)) (.lst upd_same (p2.data.mono (Sd.of (same_new (g2.sub.free hp)))))⟩
theorem ev_cb {rc : List V → Hp → VK → Prop} (h : EvA tr σ H Is) (hr : RcI rc Is L) : Ev (tCB rc tr) σ H L := fun H1 s Q q =>
  h H1 s _ fun vs B2 H2 g2 p2 => hr vs B2 H2 g2.sub p2 Q fun v B3 H3 g3 p3 => q v B3 H3 (g2.trans g3) p3

/-! ### ints -/
theorem ev_I0 {g : Int → Int → V} (ha : EvD ta σ H (.int i)) (hb : EvD tb σ H (.int j)) (hg : ∀ H, Rp H (g i j) d) : EvD (tOp (rI0 g) ta tb) σ H d :=
  ev_op ha hb fun x y A H s p1 p2 Q q => ⟨i, j, Rp.int_eq p1, Rp.int_eq p2, q _ A H (Grow.refl s) (hg A)⟩
theorem ev_II {C : Int → Int → Prop} {g : Int → Int → V} (ha : EvD ta σ H (.int i)) (hb : EvD tb σ H (.int j)) (hc : C i j) (hg : ∀ H, Rp H (g i j) d) : EvD (tOp (rI C g) ta tb) σ H d :=
  ev_op ha hb fun x y A H s p1 p2 Q q => ⟨i, j, Rp.int_eq p1, Rp.int_eq p2, hc, q _ A H (Grow.refl s) (hg A)⟩
/-- a + b, a - b, comparisons: the value as the rule has it -/
theorem ev_i {g : Int → Int → Int} (ha : EvD ta σ H (.int i)) (hb : EvD tb σ H (.int j)) : EvD (tOp (rI0 fun i j => .int (g i j)) ta tb) σ H (.int (g i j)) := ev_I0 ha hb fun _ => .int _
theorem ev_ib {g : Int → Int → Bool} (ha : EvD ta σ H (.int i)) (hb : EvD tb σ H (.int j)) : EvD (tOp (rI0 fun i j => .bl (g i j)) ta tb) σ H (.bool (g i j)) := ev_I0 ha hb fun _ => .bl _
theorem ev_ic {C : Int → Int → Prop} {g : Int → Int → Int} (ha : EvD ta σ H (.int i)) (hb : EvD tb σ H (.int j)) (hc : C i j) : EvD (tOp (rI C fun i j => .int (g i j)) ta tb) σ H (.int (g i j)) := ev_II ha hb hc fun _ => .int _
theorem ev_un {g : Int → Int} (ha : EvD ta σ H (.int i)) : EvD (tUn (rU fun i => .int (g i)) ta) σ H (.int (g i)) := fun H1 s Q q =>
  ha H1 s _ fun v B2 H2 g2 p2 => ⟨i, Rp.int_eq p2, q _ B2 H2 g2 (.int _)⟩

/-! ### tests -/
theorem et_test (h : EvD te σ H (.bool b)) : EvT (tTest te) σ H b := fun H1 s Q q => h H1 s _ fun v B2 H2 g2 p => ⟨b, Rp.bl_eq p, q B2 H2 g2⟩
theorem et_B (h : EvD te σ H (.bool b)) : EvT (tB te) σ H b := fun H1 s Q q => h H1 s _ fun v B2 H2 g2 p => ⟨b, Rp.bl_eq p, q B2 H2 g2⟩
theorem et_and (h1 : EvT t σ H b) (h2 : b = true → EvT u σ H c) : EvT (tAnd t u) σ H (b && c) := fun H1 s Q q => h1 H1 s _ fun B2 H2 g2 => by
  cases b with
  | true =>
    rw [if_pos rfl]
    exact (h2 rfl).mono g2.base H2 g2.sub Q fun B3 H3 g3 => q B3 H3 (g2.trans g3)
  | false =>
    rw [if_neg Bool.false_ne_true]
    exact q B2 H2 g2
theorem et_or (h1 : EvT t σ H b) (h2 : b = false → EvT u σ H c) : EvT (tOr t u) σ H (b || c) := fun H1 s Q q => h1 H1 s _ fun B2 H2 g2 => by
  cases b with
  | true =>
    rw [if_pos rfl]
    exact q B2 H2 g2
  | false =>
    rw [if_neg Bool.false_ne_true]
    exact (h2 rfl).mono g2.base H2 g2.sub Q fun B3 H3 g3 => q B3 H3 (g2.trans g3)
theorem et_not (h1 : EvT t σ H b) : EvT (tNot t) σ H (!b) := fun H1 s Q q => h1 H1 s _ fun B2 H2 g2 => q B2 H2 g2
theorem ev_and (h1 : EvD ta σ H (.bool b)) (h2 : b = true → EvD tb σ H (.bool c)) : EvD (tAndV ta tb) σ H (.bool (b && c)) := fun H1 s Q q => h1 H1 s _ fun v B2 H2 g2 p2 => ⟨b, Rp.bl_eq p2, by
  cases b with
  | true =>
    rw [if_pos rfl]
    exact Ev.mono g2.base (h2 rfl) H2 g2.sub Q fun w B3 H3 g3 p3 => q w B3 H3 (g2.trans g3) p3
  | false =>
    rw [if_neg Bool.false_ne_true]
    exact q _ B2 H2 g2 (.bl false)⟩
theorem ev_or (h1 : EvD ta σ H (.bool b)) (h2 : b = false → EvD tb σ H (.bool c)) : EvD (tOrV ta tb) σ H (.bool (b || c)) := fun H1 s Q q => h1 H1 s _ fun v B2 H2 g2 p2 => ⟨b, Rp.bl_eq p2, by
  cases b with
  | true =>
    rw [if_pos rfl]
    exact q _ B2 H2 g2 (.bl true)
  | false =>
    rw [if_neg Bool.false_ne_true]
    exact Ev.mono g2.base (h2 rfl) H2 g2.sub Q fun w B3 H3 g3 p3 => q w B3 H3 (g2.trans g3) p3⟩
theorem ev_not (h1 : EvD ta σ H (.bool b)) : EvD (tNotV ta) σ H (.bool (!b)) := fun H1 s Q q => h1 H1 s _ fun v B2 H2 g2 p2 => ⟨b, Rp.bl_eq p2, q _ B2 H2 g2 (.bl _)⟩
theorem ev_if (h : EvT t σ H b) (h1 : b = true → Ev ta σ H I) (h2 : b = false → Ev tb σ H I) : Ev (tIf t ta tb) σ H I := fun H1 s Q q => h H1 s _ fun B2 H2 g2 => by
  cases b with
  | true =>
    rw [if_pos rfl]
    exact (h1 rfl).mono g2.base H2 g2.sub Q fun w B3 H3 g3 p3 => q w B3 H3 (g2.trans g3) p3
  | false =>
    rw [if_neg Bool.false_ne_true]
    exact (h2 rfl).mono g2.base H2 g2.sub Q fun w B3 H3 g3 p3 => q w B3 H3 (g2.trans g3) p3
/-- a < b < c of ints -/
theorem ev_chain {p p' : Int → Int → Bool} {k : Int} (ha : EvD ta σ H (.int i)) (hb : EvD tb σ H (.int j)) (hc : p i j = true → EvD tc σ H (.int k)) :
    EvD (tChain (rI0 fun i j => .bl (p i j)) (rI0 fun i j => .bl (p' i j)) ta tb tc) σ H (.bool (p i j && p' j k)) := fun H1 s Q q =>
  ha H1 s _ fun x B2 H2 g2 p2 => Ev.mono g2.base hb H2 g2.sub _ fun y B3 H3 g3 p3 => ⟨i, j, Rp.int_eq p2, Rp.int_eq p3, p i j, rfl, by
    cases e : p i j with
    | true =>
      rw [if_pos rfl]
      exact Ev.mono (g2.trans g3).base (hc e) H3 g3.sub _ fun z B4 H4 g4 p4 => ⟨j, k, Rp.int_eq p3, Rp.int_eq p4, q _ B4 H4 ((g2.trans g3).trans g4) (by rw [e, Bool.true_and]; exact .bl _)⟩
    | false =>
      rw [if_neg Bool.false_ne_true]
      exact q _ B3 H3 (g2.trans g3) (by rw [e, Bool.false_and]; exact .bl _)⟩
theorem et_truth (h : Ev te σ H I) (ht : ∀ v A H, Same A H → I.P v A → TruV K v H b) : EvT (fun σ H Q => te σ H fun x H' => ∃ k, TruV K x H' k ∧ Q k H') σ H b := fun H1 s Q q =>
  h H1 s _ fun v B2 H2 g2 p2 => ⟨b, ht v B2 H2 g2.sub p2, q B2 H2 g2⟩
theorem tru_lst (v : V) (A H : Hp) (s : Same A H) (r : (dt (.list ds)).P v A) : TruV K v H (!ds.isEmpty) := by
  obtain ⟨a, xs, rfl, e, r⟩ := Rp.lst_eq r
  refine .inl ⟨xs, SqL.of (s _ _ e), ?_⟩
  cases r <;> rfl
/-- the truth of a list of data -/
theorem et_lst (h : EvD te σ H (.list ds)) : EvT (fun σ H Q => te σ H fun x H' => ∃ k, TruV K x H' k ∧ Q k H') σ H (!ds.isEmpty) := et_truth h tru_lst

/-! ### lists and tuples -/
theorem atI_map {xs : List V} {ds : List PyData} (r : RpA H xs ds) (h : atI ds i = some d) : ∃ v, atI xs i = some v ∧ Rp H v d := by
  unfold atI at h ⊢
  rw [r.length]
  cases e : ixN ds.length i with
  | none =>
    rw [e] at h
    cases h
  | some k =>
    rw [e] at h
    exact r.get h
theorem rv_ixL (h : atI ds i = some d) : RvI (rIxL K) (dt (.list ds)) (dt (.int i)) (dt d) := fun x y A H s p1 p2 Q q => by
  obtain ⟨a, xs, rfl, e, r⟩ := Rp.lst_eq p1
  obtain ⟨v, h1, h2⟩ := atI_map r h
  exact ⟨a, xs, i, v, rfl, Rp.int_eq p2, SqL.of (s _ _ e), h1, q v A H (Grow.refl s) h2⟩
theorem rv_ixT (h : atI ds i = some d) : RvI (rIxT K) (dt (.tuple ds)) (dt (.int i)) (dt d) := fun x y A H s p1 p2 Q q => by
  obtain ⟨a, xs, rfl, e, r⟩ := Rp.tup_eq p1
  obtain ⟨v, h1, h2⟩ := atI_map r h
  exact ⟨a, xs, i, v, rfl, Rp.int_eq p2, SqT.of (s _ _ e), h1, q v A H (Grow.refl s) h2⟩
theorem rv_cat (hl : ds.length + es.length ≤ 100000) : RvI rCat (dt (.list ds)) (dt (.list es)) (dt (.list (ds ++ es))) := fun x y A H s p1 p2 Q q => by
  obtain ⟨a, xs, rfl, e1, r1⟩ := Rp.lst_eq p1
  obtain ⟨b, ys, rfl, e2, r2⟩ := Rp.lst_eq p2
  exact ⟨a, b, xs, ys, rfl, rfl, s _ _ e1, s _ _ e2, by rw [r1.length, r2.length]; exact Nat.le_trans hl (by decide), fun p hp => q _ _ _ (Grow.alloc s hp) (.lst upd_same ((r1.app r2).mono (Sd.of (same_new (s.free hp)))))⟩
theorem rv_catT (hl : ds.length + es.length ≤ 100000) (hd : ds ≠ []) : RvI (rCatT K) (dt (.tuple ds)) (dt (.tuple es)) (dt (.tuple (ds ++ es))) := fun x y A H s p1 p2 Q q => by
  obtain ⟨a, xs, rfl, e1, r1⟩ := Rp.tup_eq p1
  obtain ⟨b, ys, rfl, e2, r2⟩ := Rp.tup_eq p2
  refine ⟨a, b, xs, ys, rfl, rfl, SqT.of (s _ _ e1), SqT.of (s _ _ e2), fun z => ?_, by rw [r1.length, r2.length]; exact Nat.le_trans hl (by decide), fun z => ?_, fun _ p hp => q _ _ _ (Grow.alloc s hp) (.tup upd_same ((r1.app r2).mono (Sd.of (same_new (s.free hp)))))⟩
  · subst z
    cases r1
    exact hd rfl
  · subst z
    cases r2
    rw [List.append_nil] at q
    exact q _ A H (Grow.refl s) (.tup e1 r1)
theorem rv_eqD (h1 : SeqAt.shaped d = true) (h2 : SeqAt.shaped e = true) : RvI (rEqD K) (dt d) (dt e) (dt (.bool (PyData.eqv d e))) := fun x y A H s p1 p2 Q q =>
  ⟨d, e, Rp.dp (Rp.mono (Sd.of s) p1), Rp.dp (Rp.mono (Sd.of s) p2), h1, h2, q _ A H (Grow.refl s) (.bl _)⟩
theorem rv_neD (h1 : SeqAt.shaped d = true) (h2 : SeqAt.shaped e = true) : RvI (rNeD K) (dt d) (dt e) (dt (.bool (!PyData.eqv d e))) := fun x y A H s p1 p2 Q q =>
  ⟨d, e, Rp.dp (Rp.mono (Sd.of s) p1), Rp.dp (Rp.mono (Sd.of s) p2), h1, h2, q _ A H (Grow.refl s) (.bl _)⟩
theorem rv_inD (h1 : SeqAt.shaped d = true) (h2 : SeqAt.shaped (.list ds) = true) : RvI (rInD K) (dt d) (dt (.list ds)) (dt (.bool (ds.any fun z => PyData.eqv z d))) := fun x y A H s p1 p2 Q q =>
  ⟨d, ds, Rp.dp (Rp.mono (Sd.of s) p1), Rp.dp (Rp.mono (Sd.of s) p2), h1, h2, q _ A H (Grow.refl s) (.bl _)⟩
theorem rv_niD (h1 : SeqAt.shaped d = true) (h2 : SeqAt.shaped (.list ds) = true) : RvI (rNotInD K) (dt d) (dt (.list ds)) (dt (.bool (!ds.any fun z => PyData.eqv z d))) := fun x y A H s p1 p2 Q q =>
  ⟨d, ds, Rp.dp (Rp.mono (Sd.of s) p1), Rp.dp (Rp.mono (Sd.of s) p2), h1, h2, q _ A H (Grow.refl s) (.bl _)⟩
/-- len of a list, of a tuple -/
def rLn (K : PySem.W.Frag) : List V → Hp → VK → Prop := fun xs H Q => ∃ p ys, xs = [V.ref p] ∧ (SqL K H p ys ∨ SqT K H p ys) ∧ Q (.int ys.length) H
theorem rc_len : RcI (rLn K) [dt (.list ds)] (dt (.int ds.length)) := fun vs A H s p Q q => by
  cases p with
  | cons p1 pr =>
    cases pr
    obtain ⟨a, xs, rfl, e1, r1⟩ := Rp.lst_eq p1
    exact ⟨a, xs, rfl, .inl (SqL.of (s _ _ e1)), q _ A H (Grow.refl s) (by rw [r1.length]; exact .int _)⟩
theorem rc_lenT : RcI (rLn K) [dt (.tuple ds)] (dt (.int ds.length)) := fun vs A H s p Q q => by
  cases p with
  | cons p1 pr =>
    cases pr
    obtain ⟨a, xs, rfl, e1, r1⟩ := Rp.tup_eq p1
    exact ⟨a, xs, rfl, .inr (SqT.of (s _ _ e1)), q _ A H (Grow.refl s) (by rw [r1.length]; exact .int _)⟩
/-- list(xs), list(t); tuple(xs) -/
def rLs (K : PySem.W.Frag) : List V → Hp → VK → Prop := fun xs H Q => ∃ p ys, xs = [V.ref p] ∧ (SqL K H p ys ∨ SqT K H p ys) ∧ ∀ l, H l = none → Q (.ref l) (upd H l (.lst ys))
theorem rc_list : RcI (rLs K) [dt (.list ds)] (dt (.list ds)) := fun vs A H s p Q q => by
  cases p with
  | cons p1 pr =>
    cases pr
    obtain ⟨a, xs, rfl, e1, r1⟩ := Rp.lst_eq p1
    exact ⟨a, xs, rfl, .inl (SqL.of (s _ _ e1)), fun l hl => q _ _ _ (Grow.alloc s hl) (.lst upd_same (r1.mono (Sd.of (same_new (s.free hl)))))⟩
theorem rc_listT : RcI (rLs K) [dt (.tuple ds)] (dt (.list ds)) := fun vs A H s p Q q => by
  cases p with
  | cons p1 pr =>
    cases pr
    obtain ⟨a, xs, rfl, e1, r1⟩ := Rp.tup_eq p1
    exact ⟨a, xs, rfl, .inr (SqT.of (s _ _ e1)), fun l hl => q _ _ _ (Grow.alloc s hl) (.lst upd_same (r1.mono (Sd.of (same_new (s.free hl)))))⟩
def rTp (K : PySem.W.Frag) : List V → Hp → VK → Prop := fun xs H Q => ∃ p ys, xs = [.ref p] ∧ ((SqL K H p ys ∧ ∀ l, H l = none → Q (.ref l) (upd H l (.tup ys))) ∨ (SqT K H p ys ∧ Q (.ref p) H))
theorem rc_tuple : RcI (rTp K) [dt (.list ds)] (dt (.tuple ds)) := fun vs A H s p Q q => by
  cases p with
  | cons p1 pr =>
    cases pr
    obtain ⟨a, xs, rfl, e1, r1⟩ := Rp.lst_eq p1
    exact ⟨a, xs, rfl, .inl ⟨SqL.of (s _ _ e1), fun l hl => q _ _ _ (Grow.alloc s hl) (.tup upd_same (r1.mono (Sd.of (same_new (s.free hl)))))⟩⟩
theorem eo_none : EvO tNoPart σ H none := fun H1 s _ q => q H H1 (Grow.refl s)
theorem eo_some (h : EvD te σ H (.int i)) : EvO (tPart te) σ H (some i) := fun H1 s _ q => h H1 s _ fun v B2 H2 g2 p => ⟨i, Rp.int_eq p, q B2 H2 g2⟩
def cutD (ds : List PyData) (lo hi : Option Int) : List PyData := (ds.drop (HT.sIx ds.length 0 lo)).take (HT.sIx ds.length ds.length hi - HT.sIx ds.length 0 lo)
theorem RpA.cut {xs : List V} (r : RpA H xs ds) (lo hi : Option Int) : RpA H (cutV xs lo hi) (cutD ds lo hi) := by
  unfold cutV cutD
  rw [r.length]
  exact (r.drop _).take _
theorem ev_slL {tl th : TO} {lo hi : Option Int} (h : EvD te σ H (.list ds)) (h1 : EvO tl σ H lo) (h2 : EvO th σ H hi) : EvD (tSl (rSlL K) te tl th) σ H (.list (cutD ds lo hi)) := fun H1 s Q q =>
  h H1 s _ fun v B2 H2 g2 p2 => h1.mono g2.base H2 g2.sub _ fun B3 H3 g3 => h2.mono (g2.trans g3).base H3 g3.sub _ fun B4 H4 g4 => by
    obtain ⟨a, xs, rfl, e, r⟩ := Rp.lst_eq p2
    have g5 := g3.trans g4
    exact ⟨a, xs, rfl, SqL.of (g5.top _ _ (g2.sub _ _ e)), fun p hp => q _ _ _ ((g2.trans g5).trans (Grow.alloc g5.sub hp)) (.lst upd_same ((r.cut lo hi).mono (Sd.of (g5.base.trans (same_new (g5.sub.free hp))))))⟩
/-- a slice of a tuple that is not the whole -/
theorem ev_slT {tl th : TO} {lo hi : Option Int} (h : EvD te σ H (.tuple ds)) (h1 : EvO tl σ H lo) (h2 : EvO th σ H hi) (hn : ¬ (HT.sIx ds.length 0 lo = 0 ∧ HT.sIx ds.length ds.length hi = ds.length)) : EvD (tSl (rSlT K) te tl th) σ H (.tuple (cutD ds lo hi)) := fun H1 s Q q =>
  h H1 s _ fun v B2 H2 g2 p2 => h1.mono g2.base H2 g2.sub _ fun B3 H3 g3 => h2.mono (g2.trans g3).base H3 g3.sub _ fun B4 H4 g4 => by
    obtain ⟨a, xs, rfl, e, r⟩ := Rp.tup_eq p2
    have g5 := g3.trans g4
    exact ⟨a, xs, rfl, SqT.of (g5.top _ _ (g2.sub _ _ e)), by rw [r.length]; exact hn, fun p hp => q _ _ _ ((g2.trans g5).trans (Grow.alloc g5.sub hp)) (.tup upd_same ((r.cut lo hi).mono (Sd.of (g5.base.trans (same_new (g5.sub.free hp))))))⟩
end
end Sky

set_option Elab.async false
set_option linter.all false
set_option maxRecDepth 100000
set_option maxHeartbeats 4000000
/-! Promises by items; statements; what is walked; comprehensions and loops over bases. -/
namespace Sky
open PySem PySem.Spec PyProof.Rows L2

/-! ### promises by items -/
def SpF {α : Type} (args : α → List Item) (pre : α → Prop) (res : α → Item) : Sp := fun vs H Q _ => ∃ (x : α) (B : Hp), pre x ∧ Same B H ∧ ItA B vs (args x) ∧ ∀ v B1 H1, Grow B H B1 H1 → (res x).P v B1 → Q v H1
theorem SpF.len {α : Type} {args : α → List Item} {pre : α → Prop} {res : α → Item} {n : Nat} (h : ∀ x, (args x).length = n) : ∀ vs H Q E, SpF args pre res vs H Q E → vs.length = n := fun vs H Q E ⟨x, B, _, _, a, _⟩ => by
  rw [a.length]
  exact h x
section
variable {K : PySem.W.Frag} {σ : L2.St} {H H' : Hp} {ta tb tc te : TE} {tr : TA} {t u : TT} {x y z v : V} {I J L : Item} {Is : List Item} {d e f : PyData} {ds es : List PyData} {b c : Bool} {i j : Int}
theorem ev_call {α : Type} {args : α → List Item} {pre : α → Prop} {res : α → Item} {E : XK} (x : α) (h : EvA tr σ H (args x)) (hp : pre x) : Ev (tCall (SpF args pre res) [] E tr) σ H (res x) := fun H1 s Q q =>
  h H1 s _ fun vs B2 H2 g2 p2 => by
    rw [List.append_nil]
    exact ⟨x, B2, hp, g2.sub, p2, fun v B3 H3 g3 p3 => q v B3 H3 (g2.trans g3) p3⟩
theorem ev_meth {α : Type} {args : α → List Item} {pre : α → Prop} {res : α → Item} {E : XK} {C : Addr} {m : Str} (x : α) (ho : Ev ta σ H I) (hi : ∀ v A, I.P v A → ∃ a dx fs, v = .ref a ∧ A a = some (.ins C dx fs) ∧ fs.lookup m = none)
    (h : EvA tr σ H Is) (hx : args x = I :: Is) (hp : pre x) : Ev (tMeth C m (SpF args pre res) [] E ta tr) σ H (res x) := fun H1 s Q q =>
  ho H1 s _ fun o B2 H2 g2 p2 => by
    obtain ⟨a, dx, fs, e1, e2, e3⟩ := hi o B2 p2
    refine ⟨a, dx, fs, e1, g2.sub _ _ e2, e3, h.mono g2.base H2 g2.sub _ fun vs B3 H3 g3 p3 => ?_⟩
    rw [List.append_nil]
    refine ⟨x, B3, hp, g3.sub, ?_, fun v B4 H4 g4 p4 => q v B4 H4 ((g2.trans g3).trans g4) p4⟩
    rw [hx]
    exact .cons (I.mono g3.base p2) p3
theorem ev_fld {f : Str} (h : Ev ta σ H I) (hi : ∀ v A, I.P v A → ∃ a C dx fs u, v = .ref a ∧ A a = some (.ins C dx fs) ∧ Cls K C ∧ NoAttr K C f ∧ fs.lookup f = some u ∧ J.P u A) : Ev (tFld K ta f) σ H J := fun H1 s Q q =>
  h H1 s _ fun v B2 H2 g2 p2 => by
    obtain ⟨a, C, dx, fs, w, e1, e2, e3, e4, e5, e6⟩ := hi v B2 p2
    exact ⟨a, C, dx, fs, w, e1, g2.sub _ _ e2, e3, e4, e5, q w B2 H2 g2 e6⟩

/-! ### statements -/
variable {D : Ends} {tu tw tv : TS} {B : Hp}
theorem s_set {i : Nat} (h : Ev te σ B I) (s : Same B H) (k : ∀ v B1 H1, Grow B H B1 H1 → I.P v B1 → tu D (σ.set i (some v)) H1) : tSeq (tAsg te (gName i)) tu D σ H := h H s _ k
theorem s_set1 {i : Nat} (h : Ev te σ B I) (s : Same B H) (k : ∀ v B1 H1, Grow B H B1 H1 → I.P v B1 → D.nx (σ.set i (some v)) H1) : tAsg te (gName i) D σ H := h H s _ k
theorem s_ret (h : Ev te σ B I) (s : Same B H) (k : ∀ v B1 H1, Grow B H B1 H1 → I.P v B1 → D.rt v H1) : tRet te D σ H := h H s _ k
theorem s_retq (h : Ev te σ B I) (s : Same B H) (k : ∀ v B1 H1, Grow B H B1 H1 → I.P v B1 → D.rt v H1) : tSeq (tRet te) tu D σ H := h H s _ k
theorem s_if (h : EvT t σ B b) (s : Same B H) (h1 : b = true → ∀ B1 H1, Grow B H B1 H1 → tu D σ H1) (h2 : b = false → ∀ B1 H1, Grow B H B1 H1 → tw D σ H1) : tIfS t tu tw D σ H := h H s _ fun B1 H1 g => by
  cases b with
  | true =>
    rw [if_pos rfl]
    exact h1 rfl B1 H1 g
  | false =>
    rw [if_neg Bool.false_ne_true]
    exact h2 rfl B1 H1 g
theorem s_ifq (h : EvT t σ B b) (s : Same B H) (h1 : b = true → ∀ B1 H1, Grow B H B1 H1 → tSeq tu tv D σ H1) (h2 : b = false → ∀ B1 H1, Grow B H B1 H1 → tSeq tw tv D σ H1) : tSeq (tIfS t tu tw) tv D σ H :=
  s_if (D := { D with nx := tv D }) h s h1 h2
theorem s_if1 (h : EvT t σ B b) (s : Same B H) (h1 : b = true → ∀ B1 H1, Grow B H B1 H1 → tSeq tu tv D σ H1) (h2 : b = false → ∀ B1 H1, Grow B H B1 H1 → tv D σ H1) : tSeq (tIfS t tu tNext) tv D σ H :=
  s_if (D := { D with nx := tv D }) h s h1 h2
theorem s_drop (h : Ev te σ B I) (s : Same B H) (k : ∀ v B1 H1, Grow B H B1 H1 → I.P v B1 → tu D σ H1) : tSeq (tDrop te) tu D σ H := h H s _ k

/-! ### targets -/
def Gt (g : TG) (x : V) (σ : L2.St) (B : Hp) (σ2 : L2.St) : Prop := ∀ H, Same B H → ∀ Q : L2.St → Hp → Prop, Q σ2 H → g x σ H Q
def Gts (g : TGs) (xs : List V) (σ : L2.St) (B : Hp) (σ2 : L2.St) : Prop := ∀ H, Same B H → ∀ Q : L2.St → Hp → Prop, Q σ2 H → g xs σ H Q
theorem gt_name {i : Nat} : Gt (gName i) x σ B (σ.set i (some x)) := fun _ _ _ q => q
theorem gts_nil : Gts gNil [] σ B σ := fun _ _ _ q => ⟨rfl, q⟩
theorem gts_cons {g : TG} {gs : TGs} {xs : List V} {σ2 σ3 : L2.St} (h : Gt g x σ B σ2) (r : Gts gs xs σ2 B σ3) : Gts (gCons g gs) (x :: xs) σ B σ3 := fun H s Q q => ⟨x, xs, rfl, h H s _ (r H s Q q)⟩
theorem gt_tup {n : Nat} {gs : TGs} {xs : List V} {σ2 : L2.St} {a : Addr} (e : B a = some (.tup xs)) (hn : xs.length = n) (r : Gts gs xs σ B σ2) : Gt (gTup K n gs) (.ref a) σ B σ2 := fun H s Q q => ⟨a, xs, rfl, SqT.of (s _ _ e), hn, r H s Q q⟩
theorem s_asg {g : TG} (h : Ev te σ B I) (s : Same B H) (k : ∀ v B1 H1, Grow B H B1 H1 → I.P v B1 → ∃ σ2, Gt g v σ B1 σ2 ∧ tu D σ2 H1) : tSeq (tAsg te g) tu D σ H := h H s _ fun v B1 H1 g1 p => by
  obtain ⟨σ2, h1, h2⟩ := k v B1 H1 g1 p
  exact h1 H1 g1.sub _ h2

/-! ### what is walked: n turns, the item of each -/
structure WkJ (J : It) (B : Hp) (n : Nat) (Y : Nat → Item) : Prop where
  go : ∀ i H, Same B H → i < n → J.go i H
  yld : ∀ i H x H', Same B H → i < n → J.yld i H x H' → ∃ B', Grow B H B' H' ∧ (Y i).P x B'
  stop : ∀ H, Same B H → J.stop n H
theorem WkJ.mono {J : It} {B B' : Hp} {n : Nat} {Y : Nat → Item} (w : WkJ J B n Y) (s : Same B B') : WkJ J B' n Y where
  go := fun i H a l => w.go i H (s.trans a) l
  yld := fun i H x H' a l y => by
    obtain ⟨B2, g, p⟩ := w.yld i H x H' (s.trans a) l y
    exact ⟨_, g.mono s a, (Y i).mono un_left p⟩
  stop := fun H a => w.stop H (s.trans a)
def Wk (wi : TI) (σ : L2.St) (H : Hp) (n : Nat) (Y : Nat → Item) : Prop := ∀ H1, Same H H1 → ∀ R : It → Hp → Prop, (∀ J B H2, Grow H H1 B H2 → WkJ J B n Y → R J H2) → wi σ H1 R
theorem Wk.mono {wi : TI} {n : Nat} {Y : Nat → Item} (s : Same H H') (h : Wk wi σ H n Y) : Wk wi σ H' n Y := fun H1 a R r => h H1 (s.trans a) R fun J B H2 g w => r J _ H2 (g.mono s a) (w.mono un_left)
def dts (ds : List PyData) : Nat → Item := fun i => dt (ds.getD i .none)
theorem getD_of {ds : List PyData} {i : Nat} {d : PyData} (h : ds[i]? = some d) : ds.getD i .none = d := by simp [List.getD, h]
theorem wk_list (h : EvD te σ H (.list ds)) : Wk (iList K te) σ H ds.length (dts ds) := fun H1 s R r =>
  h H1 s _ fun v B2 H2 g2 p2 => by
    obtain ⟨a, xs, rfl, e, q⟩ := Rp.lst_eq p2
    refine ⟨a, rfl, ⟨xs, SqL.of (g2.sub _ _ e)⟩, r _ B2 H2 g2 ⟨fun i H' s' l => ?_, fun i H' x H'' s' l y => ?_, fun H' s' => ⟨xs, SqL.of (s' _ _ e), by rw [q.length]; exact Nat.le_refl _⟩⟩⟩
    · have l' : i < xs.length := by rw [q.length]; exact l
      exact ⟨xs, xs[i], SqL.of (s' _ _ e), List.getElem?_eq_getElem l'⟩
    · obtain ⟨e1, e2⟩ := y
      subst e1
      obtain ⟨d, h1, h2⟩ := q.getV (e2 xs (SqL.of (s' _ _ e)))
      refine ⟨B2, Grow.refl s', ?_⟩
      show Rp B2 x (ds.getD i .none)
      rw [getD_of h1]
      exact h2
theorem wk_tup (h : EvD te σ H (.tuple ds)) : Wk (iTup K te) σ H ds.length (dts ds) := fun H1 s R r =>
  h H1 s _ fun v B2 H2 g2 p2 => by
    obtain ⟨a, xs, rfl, e, q⟩ := Rp.tup_eq p2
    refine ⟨a, rfl, ⟨xs, SqT.of (g2.sub _ _ e)⟩, r _ B2 H2 g2 ⟨fun i H' s' l => ?_, fun i H' x H'' s' l y => ?_, fun H' s' => ⟨xs, SqT.of (s' _ _ e), by rw [q.length]; exact Nat.le_refl _⟩⟩⟩
    · have l' : i < xs.length := by rw [q.length]; exact l
      exact ⟨xs, xs[i], SqT.of (s' _ _ e), List.getElem?_eq_getElem l'⟩
    · obtain ⟨e1, e2⟩ := y
      subst e1
      obtain ⟨d, h1, h2⟩ := q.getV (e2 xs (SqT.of (s' _ _ e)))
      refine ⟨B2, Grow.refl s', ?_⟩
      show Rp B2 x (ds.getD i .none)
      rw [getD_of h1]
      exact h2
def itvs (lo : Int) : Nat → Item := fun i => dt (.int (lo + i))
theorem wk_r1 (h : EvD te σ H (.int j)) (h0 : 0 ≤ j) (h1 : j < 1000000) : Wk (iRng1 (tCons te tNil)) σ H j.toNat (itvs 0) := fun H1 s R r =>
  h H1 s _ fun v B2 H2 g2 p2 => by
    have e : v = .int j := Rp.int_eq p2
    subst e
    refine ⟨j, rfl, by omega, by omega, r _ B2 H2 g2 ⟨fun i H' s' l => l, fun i H' x H'' s' l y => ?_, fun H' s' => Nat.le_refl _⟩⟩
    obtain ⟨e1, e2⟩ := y
    subst e1 e2
    exact ⟨B2, Grow.refl s', .int _⟩
theorem wk_r2 (h : EvD ta σ H (.int i)) (k : EvD te σ H (.int j)) (h0 : 0 ≤ i) (h1 : i < 1000000) (h2 : 0 ≤ j) (h3 : j < 1000000) : Wk (iRng2 (tCons ta (tCons te tNil))) σ H (j - i).toNat (itvs i) := fun H1 s R r =>
  h H1 s _ fun w B0 H0 g0 p0 => Ev.mono g0.base k H0 g0.sub _ fun v B2 H2 g2 p2 => by
    have e : v = .int j := Rp.int_eq p2
    subst e
    have e : w = .int i := Rp.int_eq p0
    subst e
    refine ⟨i, j, rfl, ⟨by omega, by omega, by omega, by omega⟩, r _ B2 H2 (g0.trans g2) ⟨fun i H' s' l => l, fun i H' x H'' s' l y => ?_, fun H' s' => Nat.le_refl _⟩⟩
    obtain ⟨e1, e2⟩ := y
    subst e1 e2
    exact ⟨B2, Grow.refl s', .int _⟩

/-! ### comprehensions -/
def LcTurn (g : TG) (tt : TT) (te : TE) (σ : L2.St) (vs : List Nat) (x : V) (B : Hp) (R : Option PyData → Prop) : Prop :=
  ∃ σ2 b, Gt g x (wipe σ vs) B σ2 ∧ wipe σ2 vs = wipe σ vs ∧ EvT tt σ2 B b ∧ (b = false → R none) ∧ (b = true → Ev te σ2 B (exI dt fun d => R (some d)))
theorem RpA.snoc {H : Hp} {vs : List V} {ds : List PyData} {v : V} {d : PyData} (r : RpA H vs ds) (q : Rp H v d) : RpA H (vs ++ [v]) (ds ++ [d]) := r.app (.one q)
theorem fm_snoc {os : List (Option PyData)} {o : Option PyData} : (os ++ [o]).filterMap id = os.filterMap id ++ (match o with | some d => [d] | none => []) := by
  rw [List.filterMap_append]
  cases o <;> rfl
theorem fm_le (os : List (Option PyData)) : (os.filterMap id).length ≤ os.length := List.length_filterMap_le _ _
theorem get_snoc {α : Type} {os : List α} {o o' : α} {i : Nat} (h : (os ++ [o])[i]? = some o') : os[i]? = some o' ∨ (i = os.length ∧ o' = o) := by
  by_cases l : i < os.length
  · rw [List.getElem?_append_left l] at h
    exact .inl h
  · rw [List.getElem?_append_right (by omega)] at h
    have l2 : i - os.length = 0 := by
      cases e : i - os.length with
      | zero => rfl
      | succ k => rw [e] at h; simp at h
    rw [l2] at h
    exact .inr ⟨by omega, (Option.some.inj h).symm⟩
/-- [e for .. in .. if ..]: whatever each turn gives -/
theorem ev_lcR {wi : TI} {g : TG} {tt : TT} {vs : List Nat} {n : Nat} {Y : Nat → Item} (Rel : Nat → Option PyData → Prop) (hw : Wk wi σ H n Y) (hn : n ≤ 100000)
    (body : ∀ i x B, i < n → Same H B → (Y i).P x B → LcTurn g tt te σ vs x B (Rel i)) :
    Ev (tLc wi g tt te vs) σ H (exI (fun os : List (Option PyData) => dt (.list (os.filterMap id))) fun os => os.length = n ∧ ∀ i o, os[i]? = some o → Rel i o) := by
  intro H1 s Q q
  refine hw H1 s _ fun J B H2 g2 wj => ?_
  intro D hD
  have hBD : B D = none := g2.sub.free hD
  refine ⟨fun i m H => m = n - i ∧ i ≤ n ∧ ∃ Bi acc, Grow B H2 Bi H ∧ Bi D = none ∧ ∃ os : List (Option PyData), H D = some (.lst acc) ∧ RpA Bi acc (os.filterMap id) ∧ os.length = i ∧ ∀ i o, os[i]? = some o → Rel i o,
    ⟨n, by simp, Nat.zero_le _, B, [], ⟨Same.refl B, same_new hD, Same.put g2.sub hBD, fun _ _ h _ _ => h⟩, hBD, [], upd_same, .nil, rfl, fun i o h => by simp at h⟩, ?_⟩
  rintro i m Hi ⟨rfl, hi, Bi, acc, gi, hDi, os, eD, ra, hl, hrel⟩
  by_cases hlt : i < n
  · refine .inr ⟨wj.go i Hi (gi.base.trans gi.sub) hlt, fun H' => ∃ Bi acc, Grow B H2 Bi H' ∧ Bi D = none ∧ ∃ os : List (Option PyData), H' D = some (.lst acc) ∧ RpA Bi acc (os.filterMap id) ∧ os.length = i + 1 ∧ ∀ i o, os[i]? = some o → Rel i o,
      fun H' p => ⟨n - (i + 1), by omega, rfl, hlt, p⟩, fun x H' y => ?_⟩
    obtain ⟨B', g', p'⟩ := (wj.mono gi.base).yld i Hi x H' gi.sub hlt y
    have hD' : B' D = none := g'.new D _ hDi eD (fun _ h => nomatch h)
    obtain ⟨σ2, b, hg, hwp, ht, hf, hy⟩ := body i x B' hlt (g2.base.trans (gi.base.trans g'.base)) p'
    refine hg H' g'.sub _ ⟨hwp, ht H' g'.sub _ fun B3 H3 g3 => ?_⟩
    have gA := gi.trans g'
    have gB := gA.trans g3
    have e3 : H3 D = some (.lst acc) := g3.top _ _ (g'.top _ _ eD)
    have hD3 : B3 D = none := g3.new D _ hD' (g'.top _ _ eD) (fun _ h => nomatch h)
    cases b with
    | true =>
      rw [if_pos rfl]
      refine Ev.mono g3.base (hy rfl) H3 g3.sub _ fun v B4 H4 g4 p4 => ?_
      obtain ⟨d, hd, rd⟩ := p4
      have hD4 : B4 D = none := g4.new D _ hD3 e3 (fun _ h => nomatch h)
      have gC := gB.trans g4
      refine ⟨acc, g4.top _ _ e3, ?_, B4, acc ++ [v], ⟨gC.base, Same.put gC.top hD, Same.put gC.sub hD4, gC.new⟩, hD4, os ++ [some d], upd_same, ?_, by rw [List.length_append, List.length_singleton, hl], fun j o h => ?_⟩
      · have z := fm_le os
        rw [ra.length]
        exact Nat.lt_of_le_of_lt (Nat.le_trans z (by omega)) (by decide : 100000 < sizeLine)
      · rw [fm_snoc]
        exact (ra.mono (Sd.of (g'.base.trans (g3.base.trans g4.base)))).snoc rd
      · rcases get_snoc h with h | ⟨h1, h2⟩
        · exact hrel j o h
        · rw [h1, h2, hl]
          exact hd
    | false =>
      rw [if_neg Bool.false_ne_true]
      refine ⟨B3, acc, gB, hD3, os ++ [none], e3, ?_, by rw [List.length_append, List.length_singleton, hl], fun j o h => ?_⟩
      · rw [fm_snoc, List.append_nil]
        exact ra.mono (Sd.of (g'.base.trans g3.base))
      · rcases get_snoc h with h | ⟨h1, h2⟩
        · exact hrel j o h
        · rw [h1, h2, hl]
          exact hf rfl
  · have e : i = n := by omega
    subst e
    refine .inl ⟨wj.stop Hi (gi.base.trans gi.sub), ?_⟩
    refine q (.ref D) (upd Bi D (.lst acc)) Hi (g2.trans ⟨gi.base.trans (same_new hDi), gi.top, fun b o h => ?_, fun a u h1 h2 h3 => ?_⟩) ⟨os, ⟨hl, hrel⟩, .lst upd_same (ra.mono (Sd.of (same_new hDi)))⟩
    · by_cases hb : b = D
      · subst hb
        rw [upd_same] at h
        rw [eD]
        exact h
      · rw [upd_ne hb] at h
        exact gi.sub b o h
    · have hb : a ≠ D := fun z => by
        subst z
        rw [hD] at h2
        cases h2
      rw [upd_ne hb]
      exact gi.new a u h1 h2 h3
theorem fm_range {n : Nat} {f : Nat → Option PyData} {os : List (Option PyData)} (hl : os.length = n) (h : ∀ i o, os[i]? = some o → o = f i) : os = (List.range n).map f := by
  apply List.ext_getElem?
  intro i
  by_cases l : i < n
  · have l' : i < os.length := by omega
    rw [List.getElem?_map, List.getElem?_range l, List.getElem?_eq_getElem l']
    exact congrArg some (h i _ (List.getElem?_eq_getElem l'))
  · rw [List.getElem?_eq_none (by omega), List.getElem?_eq_none (by simp; omega)]
/-- .. where each turn's item is known -/
theorem ev_lc {wi : TI} {g : TG} {tt : TT} {vs : List Nat} {n : Nat} {Y : Nat → Item} (f : Nat → Option PyData) (hw : Wk wi σ H n Y) (hn : n ≤ 100000)
    (body : ∀ i x B, i < n → Same H B → (Y i).P x B → ∃ σ2 b, Gt g x (wipe σ vs) B σ2 ∧ wipe σ2 vs = wipe σ vs ∧ EvT tt σ2 B b ∧ (b = false → f i = none) ∧ (b = true → ∃ d, f i = some d ∧ EvD te σ2 B d)) :
    EvD (tLc wi g tt te vs) σ H (.list ((List.range n).filterMap f)) := by
  refine (ev_lcR (fun i o => o = f i) hw hn fun i x B l s p => ?_).imp fun v A h => ?_
  · obtain ⟨σ2, b, h1, h2, h3, h4, h5⟩ := body i x B l s p
    refine ⟨σ2, b, h1, h2, h3, fun e => (h4 e).symm, fun e => ?_⟩
    obtain ⟨d, e1, e2⟩ := h5 e
    exact e2.imp fun v A r => ⟨d, e1.symm, r⟩
  · obtain ⟨os, ⟨h1, h2⟩, r⟩ := h
    have e := fm_range h1 h2
    rw [e] at r
    have e2 : ((List.range n).map f).filterMap id = (List.range n).filterMap f := by
      rw [List.filterMap_map]
      rfl
    have r2 : Rp A v (.list (((List.range n).map f).filterMap id)) := r
    rw [e2] at r2
    exact r2
theorem range_fm {α : Type} {ds : List α} {β : Type} {f : α → Option β} {d0 : α} : (List.range ds.length).filterMap (fun i => f (ds.getD i d0)) = ds.filterMap f := by
  induction ds with
  | nil => rfl
  | cons d ds ih =>
    rw [List.length_cons, List.range_succ_eq_map, List.filterMap_cons, List.filterMap_map, List.filterMap_cons]
    have e : ((fun i => f ((d :: ds).getD i d0)) ∘ Nat.succ) = fun i => f (ds.getD i d0) := by
      funext i
      simp [List.getD]
    rw [e, ih]
    have e0 : (d :: ds).getD 0 d0 = d := rfl
    rw [e0]
/-- over a list of data -/
theorem ev_lcL {g : TG} {tt : TT} {vs : List Nat} {wi : TI} (f : PyData → Option PyData) (hw : Wk wi σ H ds.length (dts ds)) (hn : ds.length ≤ 100000)
    (body : ∀ d x B, d ∈ ds → Same H B → Rp B x d → ∃ σ2 b, Gt g x (wipe σ vs) B σ2 ∧ wipe σ2 vs = wipe σ vs ∧ EvT tt σ2 B b ∧ (b = false → f d = none) ∧ (b = true → ∃ d', f d = some d' ∧ EvD te σ2 B d')) :
    EvD (tLc wi g tt te vs) σ H (.list (ds.filterMap f)) := by
  refine (ev_lc (fun i => f (ds.getD i .none)) hw hn fun i x B l s p => ?_).is (congrArg PyData.list range_fm)
  have e : ds.getD i .none = ds[i] := getD_of (List.getElem?_eq_getElem l)
  have p' : Rp B x (ds.getD i .none) := p
  rw [e] at p' ⊢
  exact body _ x B (List.getElem_mem l) s p'
theorem et_yes : EvT tYes σ H true := fun H1 s Q q => q H H1 (Grow.refl s)

/-! ### for -/
/-- a loop's invariant: i turns are through; the slots, the base, the heap -/
def Nxt (B : Hp) (Pv : L2.St → Hp → Hp → Prop) : L2.St → Hp → Prop := fun σ' H' => ∃ B', Same B B' ∧ Same B' H' ∧ Pv σ' B' H'
theorem s_for {wi : TI} {g : TG} {tb : TS} {n : Nat} {Y : Nat → Item} (hw : Wk wi σ B n Y) (s : Same B H)
    (k : ∀ B0 H0, Grow B H B0 H0 → ∃ Pv : Nat → L2.St → Hp → Hp → Prop, Pv 0 σ B0 H0 ∧
      (∀ i x σ B1 H1 B2 H2, i < n → Pv i σ B1 H1 → Same B0 B1 → Grow B1 H1 B2 H2 → (Y i).P x B2 → ∃ σ2, Gt g x σ B2 σ2 ∧ tb { D with nx := Nxt B0 (Pv (i + 1)), ct := Nxt B0 (Pv (i + 1)), bk := D.nx } σ2 H2) ∧
      ∀ σ B1 H1, Pv n σ B1 H1 → Same B0 B1 → Same B1 H1 → D.nx σ H1) : tFor wi g tb D σ H := by
  refine hw H s _ fun J B0 H0 g0 wj => ?_
  obtain ⟨Pv, h0, hs, hd⟩ := k B0 H0 g0
  refine ⟨fun i m σ H => m = n - i ∧ i ≤ n ∧ Nxt B0 (Pv i) σ H, ⟨n, by simp, Nat.zero_le _, B0, Same.refl B0, g0.sub, h0⟩, ?_⟩
  rintro i m σ' Hi ⟨rfl, hi, B', s1, s2, p⟩
  by_cases hlt : i < n
  · refine .inr ⟨wj.go i Hi (s1.trans s2) hlt, Nxt B0 (Pv (i + 1)), fun σ2 H2 z => ⟨n - (i + 1), by omega, rfl, hlt, z⟩, fun x H' y => ?_⟩
    obtain ⟨B2, g2, p2⟩ := (wj.mono s1).yld i Hi x H' s2 hlt y
    obtain ⟨σ2, h1, h2⟩ := hs i x σ' B' Hi B2 H' hlt p s1 g2 p2
    exact h1 H' g2.sub _ h2
  · have e : i = n := by omega
    subst e
    exact .inl ⟨wj.stop Hi (s1.trans s2), hd σ' B' Hi p s1 s2⟩
theorem s_forq {wi : TI} {g : TG} {tb : TS} {n : Nat} {Y : Nat → Item} (hw : Wk wi σ B n Y) (s : Same B H)
    (k : ∀ B0 H0, Grow B H B0 H0 → ∃ Pv : Nat → L2.St → Hp → Hp → Prop, Pv 0 σ B0 H0 ∧
      (∀ i x σ B1 H1 B2 H2, i < n → Pv i σ B1 H1 → Same B0 B1 → Grow B1 H1 B2 H2 → (Y i).P x B2 → ∃ σ2, Gt g x σ B2 σ2 ∧ tb { D with nx := Nxt B0 (Pv (i + 1)), ct := Nxt B0 (Pv (i + 1)), bk := tu D } σ2 H2) ∧
      ∀ σ B1 H1, Pv n σ B1 H1 → Same B0 B1 → Same B1 H1 → tu D σ H1) : tSeq (tFor wi g tb) tu D σ H := s_for (D := { D with nx := tu D }) hw s k
end
end Sky

set_option Elab.async false
set_option linter.all false
set_option maxRecDepth 100000
set_option maxHeartbeats 4000000
/-! The text by places, the built-in names, a def's rule. -/
namespace Sky
open PySem PySem.Spec PyProof.Rows L2
abbrev PW : Program := PySem.Challenge.pw_highestsky_k66_whole_ways_listed
def top (i : Nat) : Stmt := PW.main.body.getD i (.Pass ⟨0, 0, 0, 0⟩)
abbrev s_start_place : Stmt := top 2
abbrev s_goal_place : Stmt := top 3
abbrev s_reached_moves : Stmt := top 4
abbrev s_way_moves : Stmt := top 5
abbrev s_is_number : Stmt := top 23
abbrev s_is_cell : Stmt := top 24
abbrev s_is_place : Stmt := top 25
abbrev s_follows : Stmt := top 28
abbrev s_check_way : Stmt := top 29
abbrev s_Trip___init__ : Stmt := inClass (top 30) 0
abbrev s_Trip_next_places : Stmt := inClass (top 30) 1
abbrev s_Trip_may_be : Stmt := inClass (top 30) 2
abbrev s_GuardedTrip___init__ : Stmt := inClass (top 31) 0
abbrev s_GuardedTrip_next_places : Stmt := inClass (top 31) 2
abbrev s_GuardedTrip_may_be : Stmt := inClass (top 31) 3
abbrev s_is_way : Stmt := top 32
abbrev s_ways : Stmt := top 33
abbrev s_many_ways : Stmt := top 34
abbrev s_has_water : Stmt := top 44
abbrev s_is_wind : Stmt := top 52
abbrev s_is_listed : Stmt := top 56
abbrev s_check_rows : Stmt := top 57
abbrev s_check_winds : Stmt := top 58
abbrev s_Chart___init__ : Stmt := inClass (top 59) 2
abbrev s_Chart_check_water : Stmt := inClass (top 59) 6
abbrev s_Chart_drag : Stmt := inClass (top 59) 8
abbrev s_Chart_neighbours : Stmt := inClass (top 59) 10
abbrev s_Chart___contains__ : Stmt := inClass (top 59) 15
abbrev s_InvalidWay___init__ : Stmt := inClass (top 16) 0
abbrev s__law_bag : Stmt := top 61
abbrev s__law_pull : Stmt := top 62
abbrev s__law_of : Stmt := top 63
abbrev s__law_chosen : Stmt := top 64
abbrev s__law_same : Stmt := top 65
abbrev s__law_field : Stmt := top 66
abbrev s__law_why : Stmt := top 67
abbrev s__law_refused : Stmt := top 68
abbrev s__law_cells : Stmt := top 69
abbrev s__law_spots : Stmt := top 70
abbrev s__law_field_of : Stmt := top 71
abbrev s__law_gusts : Stmt := top 72
abbrev s__law_sea : Stmt := top 73
abbrev s__law_moves : Stmt := top 74
abbrev s__law_sheet : Stmt := top 75
abbrev s__law_near : Stmt := top 76
abbrev s__law_tracks : Stmt := top 77
abbrev s__law_tour : Stmt := top 78
abbrev s__law_cruise : Stmt := top 79
abbrev s__law_bent_track : Stmt := top 80
abbrev s__law_wrong_at : Stmt := top 81
abbrev s__law_judged_so : Stmt := top 82
abbrev s_law : Stmt := top 83
/-! ### the built-in names -/
theorem bb_len : bootBuiltins "len" = some (.builtin "len") := by decide +kernel
theorem bb_sorted : bootBuiltins "sorted" = some (.builtin "sorted") := by decide +kernel
theorem bb_isinstance : bootBuiltins "isinstance" = some (.builtin "isinstance") := by decide +kernel
theorem bb_tuple : bootBuiltins "tuple" = some (.type "tuple") := by decide +kernel
theorem bb_list : bootBuiltins "list" = some (.type "list") := by decide +kernel
theorem bb_int : bootBuiltins "int" = some (.type "int") := by decide +kernel
theorem bb_bool : bootBuiltins "bool" = some (.type "bool") := by decide +kernel
theorem bb_str : bootBuiltins "str" = some (.type "str") := by decide +kernel
theorem bb_abs : bootBuiltins "abs" = some (.builtin "abs") := by decide +kernel
theorem bb_sum : bootBuiltins "sum" = some (.builtin "sum") := by decide +kernel
theorem bb_all : bootBuiltins "all" = some (.builtin "all") := by decide +kernel
theorem bb_any : bootBuiltins "any" = some (.builtin "any") := by decide +kernel
theorem bb_range : bootBuiltins "range" = some (.type "range") := by decide +kernel
theorem bb_enumerate : bootBuiltins "enumerate" = some (.type "enumerate") := by decide +kernel
theorem bb_zip : bootBuiltins "zip" = some (.type "zip") := by decide +kernel
theorem bb_reversed : bootBuiltins "reversed" = some (.type "reversed") := by decide +kernel
theorem bb_super : bootBuiltins "super" = some (.type "super") := by decide +kernel
/-- these names stand for what is built in -/
structure Bt (mg : Str → Option Value) : Prop where
  n_len : mg "len" = none
  n_sorted : mg "sorted" = none
  n_isinstance : mg "isinstance" = none
  n_tuple : mg "tuple" = none
  n_list : mg "list" = none
  n_int : mg "int" = none
  n_bool : mg "bool" = none
  n_str : mg "str" = none
  n_abs : mg "abs" = none
  n_sum : mg "sum" = none
  n_all : mg "all" = none
  n_any : mg "any" = none
  n_range : mg "range" = none
  n_enumerate : mg "enumerate" = none
  n_zip : mg "zip" = none
  n_reversed : mg "reversed" = none
  n_super : mg "super" = none
  g_LAST_INDEX : ∃ t, mg "LAST_INDEX" = some (.int 5 t)
  g_LAST_HOUR : ∃ t, mg "LAST_HOUR" = some (.int 8 t)
  g_MOST_TOLL : ∃ t, mg "MOST_TOLL" = some (.int 99 t)
  g_GREATEST_charts : ∃ t, mg "GREATEST_charts" = some (.int 99 t)
/-! ### rooms -/
theorem hud {A : Around} {k : Nat} (hr : Room k A) : A.units + 64 < cLine := hr.units
theorem hui {A : Around} {k : Nat} (hr : Room k A) : A.units + 65 < cLine := by have := hr.un; omega
/-! ### a def as the top leaves it -/
structure Dfn (K : PySem.W.Frag) (mg : Str → Option Value) (x : Str) (st : Stmt) (ps : List Str) : Prop where
  ex : ∃ (f : Addr) (oc : Value) (od : Option Addr) (kV doc pm : Value) (an : Option Addr) (cdv ct : Value) (osl : Array (Option Value)),
    mg x = some (.ref f) ∧ K.lookup f = some ⟨oc, od, .func (PySem.W.fnOf x x (defArgs st) (defBody st) (defScope st) .none kV doc pm an cdv ct), osl⟩ ∧ PySem.W.codeIn K cdv x = true ∧ PySem.W.keepIn K (.ref f) = true ∧
    Binds K (PySem.W.fnOf x x (defArgs st) (defBody st) (defScope st) .none kV doc pm an cdv ct) ps []
section
variable {P : Program} {w : World} {K : PySem.W.Frag} {mg : Str → Option Value} {base : Heap}
abbrev bodyCx (P : Program) (w : World) (K : PySem.W.Frag) (mg : Str → Option Value) (base : Heap) (N : List Str) (x : Str) (st : Stmt) (f : Addr) (cdv : Value) (A : Around) (outer : List Env) (s : Shared) (H : Hp) (E : XK) : Cx := (cxOf C8.CX0 P w K mg base N x (defScope st) f cdv A outer s H E).nox
theorem Dfn.cal {x : Str} {st : Stmt} {ps N : List Str} {k : Nat} {sp : Sp} (F : Dfn K mg x st ps) (S : FnScope N ps (defScope st)) (len : ∀ vs H Q E, sp vs H Q E → vs.length = ps.length)
    (hbody : ∀ (f : Addr) (cdv : Value) (A : Around) (outer : List Env) (s : Shared) (H : Hp) (vs : List V) (Q : VK) (E : XK), Room k (A.deeper (envOfC x (defScope st) s.heap.objs.size f cdv)) → sp vs H Q E →
      ∃ t, PSs (bodyCx P w K mg base N x st f cdv A outer s H E) (defBody st) t ∧ t { nx := fun _ H' => Q .non H', rt := Q } (start N vs) H) : C8.Cal P w K mg base (k + 1) x sp [] := by
  obtain ⟨f, oc, od, kV, doc, pm, an, cdv, ct, osl, h1, h2, h3, h4, h5⟩ := F.ex
  refine ⟨f, _, ps, [], fn_of h2 h3 S len fun A outer s H vs Q E hr hsp => ?_, h1, h4, h5, .nil⟩
  obtain ⟨t, h, q⟩ := hbody f cdv A outer s H vs Q E hr hsp
  exact ⟨t, h.nox, q⟩
end
section
variable {X : Cx} {k j : Nat} {x : Str} {sp : Sp} {dvs : List V} {p pos : Pos}
theorem pe_c0 (c : C8.Cal X.prog X.w X.K X.mg X.base k x sp dvs) (hr : Room j X.A) (hk : k ≤ j) (hg : Gl X x) (hdb : (x == ("__debug__" : Str)) = false := by decide) : PE X (.Call (.Name x p) [] [] pos) (tCall sp dvs C8.E0 tNil) := by
  obtain ⟨f, fd, ps, ds, F, hm, kp, b, d⟩ := c.ex
  exact pe_call0 F (hr.mono hk) hg hm kp b d C8.pass0 hdb
end
end Sky

set_option Elab.async false
set_option linter.all false
set_option maxRecDepth 100000
set_option maxHeartbeats 4000000
/-! Rules of my own, first part: a star in a display, sorted over data, what is walked. -/
namespace Sky
open PySem PySem.Spec PyProof.Rows L2
theorem RpA.ita {H : Hp} : ∀ {vs : List V} {ds : List PyData}, RpA H vs ds → ItA H vs (ds.map dt)
  | _, _, .nil => .nil
  | _, _, .cons r t => .cons r t.ita
section
variable {K : PySem.W.Frag} {σ : L2.St} {H : Hp} {te ta : TE} {tr : TA} {ds es : List PyData}
/-! ### a star in a display -/
theorem ea_starT (h : EvD te σ H (.tuple ds)) (hr : EvA tr σ H (es.map dt)) : EvA (StX.tStar K te tr) σ H ((ds ++ es).map dt) := fun H1 s Q q =>
  h H1 s _ fun v B2 H2 g2 p2 => by
    obtain ⟨a, xs, rfl, e, r⟩ := Rp.tup_eq p2
    refine ⟨a, xs, rfl, .inl (SqT.of (g2.sub _ _ e)), hr.mono g2.base H2 g2.sub _ fun vs B3 H3 g3 p3 => q _ B3 H3 (g2.trans g3) ?_⟩
    rw [List.map_append]
    exact (r.mono (Sd.of g3.base)).ita.app p3
theorem ea_starL (h : EvD te σ H (.list ds)) (hr : EvA tr σ H (es.map dt)) : EvA (StX.tStar K te tr) σ H ((ds ++ es).map dt) := fun H1 s Q q =>
  h H1 s _ fun v B2 H2 g2 p2 => by
    obtain ⟨a, xs, rfl, e, r⟩ := Rp.lst_eq p2
    refine ⟨a, xs, rfl, .inr (SqL.of (g2.sub _ _ e)), hr.mono g2.base H2 g2.sub _ fun vs B3 H3 g3 p3 => q _ B3 H3 (g2.trans g3) ?_⟩
    rw [List.map_append]
    exact (r.mono (Sd.of g3.base)).ita.app p3

/-! ### sorted over data -/
/-- values and what they stand for, paired -/
theorem each_pairs {A B : Type} {R : A → B → Prop} : ∀ {xs : List A} {us : List B} {C : Type} {S : A → C → Prop} {ds : List C}, Paired R xs us → xs.length = ds.length → (∀ (i : Nat) (x : A) (d : C), xs[i]? = some x → ds[i]? = some d → S x d) →
    PySem.W.EachIs (fun u (b : A × C) => R b.1 u ∧ S b.1 b.2) us (xs.zip ds)
  | [], _, _, _, _, .nil, _, _ => .nil
  | x :: xs, _, _, _, [], .cons _ _, hl, _ => by simp at hl
  | x :: xs, _, _, _, d :: ds, .cons r t, hl, h => .cons ⟨r, h 0 x d rfl rfl⟩ (each_pairs t (by simpa using hl) fun i y e h1 h2 => h (i + 1) y e (by simpa using h1) (by simpa using h2))
theorem zip_snd {A B : Type} : ∀ {xs : List A} {ys : List B}, xs.length = ys.length → (xs.zip ys).map Prod.snd = ys
  | [], [], _ => rfl
  | [], _ :: _, h => by simp at h
  | _ :: _, [], h => by simp at h
  | x :: xs, y :: ys, h => congrArg (y :: ·) (zip_snd (by simpa using h))
def sortD (ds : List PyData) : List PyData := ds.mergeSort (PySem.W.dataLe false id)
def rSrt : List V → Hp → VK → Prop := fun vs H Q => ∃ (a : Addr) (xs : List V) (ds : List PyData), vs = [V.ref a] ∧ H a = some (.lst xs) ∧ RpA H xs ds ∧ PySem.W.AllAlike ds ∧ PySem.W.Sortable ds ∧ ds.length ≤ 100000 ∧ (∀ d ∈ ds, d.depth ≤ 60) ∧
  ∀ (ys : List V) (p : Addr), H p = none → (∀ y ∈ ys, y ∈ xs) → (∀ A, RpA A xs ds → RpA A ys (sortD ds)) → Q (.ref p) (upd H p (.lst ys))
theorem rpA_zip {H : Hp} : ∀ {xs : List V} {ds : List PyData}, RpA H xs ds → ∀ b ∈ xs.zip ds, Rp H b.1 b.2
  | _, _, .nil, b, h => by simp at h
  | _, _, .cons r t, b, h => by
    rcases List.mem_cons.mp h with e | h
    · rw [e]
      exact r
    · exact rpA_zip t b h
theorem rpA_of_pairs {H : Hp} : ∀ {bs : List (V × PyData)}, (∀ b ∈ bs, Rp H b.1 b.2) → RpA H (bs.map Prod.fst) (bs.map Prod.snd)
  | [], _ => .nil
  | b :: bs, h => .cons (h b (List.mem_cons_self ..)) (rpA_of_pairs fun c hc => h c (List.mem_cons_of_mem _ hc))
theorem each_fst {A C : Type} {B : Type} {R : A → B → Prop} {S : A → C → Prop} : ∀ {us : List B} {bs : List (A × C)}, PySem.W.EachIs (fun u (b : A × C) => R b.1 u ∧ S b.1 b.2) us bs → Paired R (bs.map Prod.fst) us
  | _, _, .nil => .nil
  | _, _, .cons r t => .cons r.1 (each_fst t)
theorem cr_sortedD {X : Cx} (hu : X.A.units + 64 < cLine) : CallR X (.builtin "sorted") rSrt := by
  intro pins s σ H vs us Q I r h
  obtain ⟨a, xs, ds, rfl, ha, hr, hal, hso, hle, hdp, q⟩ := h
  obtain ⟨its, rv, hl, _⟩ := I.list (SqL.of ha)
  rw [Vals.ref1 r]
  have hlen := hr.length
  have E0 := each_pairs (R := RelV) (S := fun v d => Rp H v d) rv hlen fun i x d h1 h2 => by
    obtain ⟨v, q1, q2⟩ := hr.get h2
    rw [h1] at q1
    cases q1
    exact q2
  have Er : PySem.W.EachIs (fun (v : Value) (b : V × PyData) => ∃ as, Reads s.heap v b.2 as) its (xs.zip ds) := E0.mono fun v b ⟨h1, h2⟩ => Dp.reads I b.2 b.1 v (Rp.dp h2) h1
  have hsn : (xs.zip ds).map Prod.snd = ds := zip_snd hlen
  have hzl : (xs.zip ds).length = ds.length := by rw [List.length_zip, hlen, Nat.min_self]
  refine PySem.W.sorted_data (enc := Prod.snd) hl.isList E0 Er (by rw [hsn]; exact hal) (by rw [hsn]; exact hso) (by rw [hzl]; exact Nat.le_trans hle (by decide)) (fun b hb => ?_) fun out ho eo => ?_
  · have hb2 : b.2 ∈ ds := by
      rw [← hsn]
      exact List.mem_map_of_mem hb
    have := hdp _ hb2
    omega
  · obtain ⟨ep, he'⟩ := PyProof.Rows.sortedAll_at s.heap its out.toArray
    have V0 := each_fst eo
    have hperm := List.mergeSort_perm (xs.zip ds) (PySem.W.dataLe false Prod.snd)
    have hmap : ((xs.zip ds).mergeSort (PySem.W.dataLe false Prod.snd)).map Prod.snd = sortD ds := by
      have z := PySem.W.sort_maps (r := PySem.W.dataLe false Prod.snd) (s := PySem.W.dataLe false id) (Prod.snd : V × PyData → PyData) (l := xs.zip ds) fun a _ b _ => rfl
      rw [z, hsn]
      rfl
    have hlen2 : (((xs.zip ds).mergeSort (PySem.W.dataLe false Prod.snd)).map Prod.fst).length ≤ sizeLine := by
      rw [List.length_map, hperm.length_eq, hzl]
      exact Nat.le_trans hle (by decide)
    refine ⟨.ref _, upd H (s.heap.objs.size + 1) (.lst (((xs.zip ds).mergeSort (PySem.W.dataLe false Prod.snd)).map Prod.fst)), I.laid (t' := s.toks) (fun _ _ => PyProof.Rows.sortedAll_old) (Nat.le_succ _) ⟨hlen2, out, ep, V0, he'⟩, rfl,
      q _ _ (I.hok.fresh (Nat.le_succ _)) (fun y hy => ?_) fun A hA => ?_⟩
    · obtain ⟨b, hb, rfl⟩ := List.mem_map.mp hy
      exact (List.of_mem_zip (hperm.mem_iff.mp hb)).1
    · rw [← hmap]
      exact rpA_of_pairs fun b hb => rpA_zip hA b (hperm.mem_iff.mp hb)
theorem ev_sorted (h : EvD te σ H (.list ds)) (hal : PySem.W.AllAlike ds) (hso : PySem.W.Sortable ds) (hle : ds.length ≤ 100000) (hdp : ∀ d ∈ ds, d.depth ≤ 60) : EvD (tCB rSrt (tCons te tNil)) σ H (.list (sortD ds)) := fun H1 s Q q =>
  h H1 s _ fun v B2 H2 g2 p2 => by
    obtain ⟨a, xs, rfl, e, r⟩ := Rp.lst_eq p2
    exact ⟨a, xs, ds, rfl, g2.sub _ _ e, r.mono (Sd.of g2.sub), hal, hso, hle, hdp, fun ys p hp hy hA => q _ _ _ (g2.trans (Grow.alloc g2.sub hp)) (.lst upd_same ((hA B2 r).mono (Sd.of (same_new (g2.sub.free hp)))))⟩

/-! ### enumerate, zip, reversed over lists of data -/
theorem wk_enum (h : EvD te σ H (.list ds)) : Wk (iEnum K (tCons te tNil)) σ H ds.length (fun i => dt (.tuple [.int (i : Nat), ds.getD i .none])) := fun H1 s R r =>
  h H1 s _ fun v B2 H2 g2 p2 => by
    obtain ⟨a, xs, rfl, e, q⟩ := Rp.lst_eq p2
    refine ⟨a, xs, rfl, SqL.of (g2.sub _ _ e), r _ B2 H2 g2 ⟨fun i H' s' l => ?_, fun i H' x H'' s' l y => ?_, fun H' s' => ⟨xs, SqL.of (s' _ _ e), by rw [q.length]; exact Nat.le_refl _⟩⟩⟩
    · have l' : i < xs.length := by rw [q.length]; exact l
      exact ⟨xs, xs[i], SqL.of (s' _ _ e), List.getElem?_eq_getElem l'⟩
    · obtain ⟨T, x', e1, hT, e2, hx⟩ := y
      subst e1 e2
      obtain ⟨d, h1, h2⟩ := q.getV (hx xs (SqL.of (s' _ _ e)))
      refine ⟨_, Grow.alloc s' hT, ?_⟩
      show Rp _ _ _
      rw [getD_of h1]
      exact .tup upd_same (.cons (.int _) (.cons (h2.mono (Sd.of (same_new (Same.free s' hT)))) .nil))
theorem wk_zip (h : EvD te σ H (.list ds)) (k : EvD ta σ H (.list es)) (hl : ds.length = es.length) : Wk (iZip K (tCons te (tCons ta tNil))) σ H ds.length (fun i => dt (.tuple [ds.getD i .none, es.getD i .none])) := fun H1 s R r =>
  h H1 s _ fun v B2 H2 g2 p2 => Ev.mono g2.base k H2 g2.sub _ fun w B3 H3 g3 p3 => by
    obtain ⟨a, xs, rfl, e, q⟩ := Rp.lst_eq p2
    obtain ⟨b, ys, rfl, e2, q2⟩ := Rp.lst_eq p3
    have e := g3.base _ _ e
    have q := q.mono (Sd.of g3.base)
    refine ⟨a, b, xs, ys, rfl, SqL.of (g3.sub _ _ e), SqL.of (g3.sub _ _ e2), r _ B3 H3 (g2.trans g3) ⟨fun i H' s' l => ?_, fun i H' x H'' s' l y => ?_, fun H' s' => ⟨xs, ys, SqL.of (s' _ _ e), SqL.of (s' _ _ e2), .inl (by rw [q.length]; exact Nat.le_refl _)⟩⟩⟩
    · have l' : i < xs.length := by rw [q.length]; exact l
      have l2 : i < ys.length := by rw [q2.length, ← hl]; exact l
      exact ⟨xs, ys, xs[i], ys[i], SqL.of (s' _ _ e), SqL.of (s' _ _ e2), List.getElem?_eq_getElem l', List.getElem?_eq_getElem l2⟩
    · obtain ⟨T, x', y', z1, hT, z2, hx, hy⟩ := y
      subst z1 z2
      obtain ⟨d, h1, h2⟩ := q.getV (hx xs (SqL.of (s' _ _ e)))
      obtain ⟨d', h1', h2'⟩ := q2.getV (hy ys (SqL.of (s' _ _ e2)))
      refine ⟨_, Grow.alloc s' hT, ?_⟩
      have sd := Sd.of (same_new (o := .tup [x', y']) (Same.free s' hT))
      show Rp _ _ _
      rw [getD_of h1, getD_of h1']
      exact .tup upd_same (.cons (h2.mono sd) (.cons (h2'.mono sd) .nil))
theorem wk_rev (h : EvD te σ H (.list ds)) : Wk (iRev K (tCons te tNil)) σ H ds.length (dts ds.reverse) := fun H1 s R r =>
  h H1 s _ fun v B2 H2 g2 p2 => by
    obtain ⟨a, xs, rfl, e, q⟩ := Rp.lst_eq p2
    have hl := q.length
    refine ⟨a, xs, rfl, SqL.of (g2.sub _ _ e), r _ B2 H2 g2 ⟨fun i H' s' l => ?_, fun i H' x H'' s' l y => ?_, fun H' s' => by show xs.length ≤ ds.length; omega⟩⟩
    · exact ⟨by omega, xs, xs[xs.length - 1 - i]'(by omega), SqL.of (s' _ _ e), List.getElem?_eq_getElem _⟩
    · obtain ⟨e1, e2⟩ := y
      subst e1
      have e3 := e2 xs (SqL.of (s' _ _ e))
      obtain ⟨d, h1, h2⟩ := q.getV e3
      refine ⟨B2, Grow.refl s', ?_⟩
      have z : ds.reverse[i]? = some d := by
        rw [List.getElem?_reverse l, ← hl]
        exact h1
      show Rp B2 x (ds.reverse.getD i .none)
      rw [getD_of z]
      exact h2
end
end Sky

set_option Elab.async false
set_option linter.all false
set_option maxRecDepth 100000
set_option maxHeartbeats 4000000
/-! isinstance of data. -/
namespace Sky
open PySem PySem.Spec PyProof.Rows L2
theorem ita1 {B : Hp} {vs : List V} {I : Item} (h : ItA B vs [I]) : ∃ a, vs = [a] ∧ I.P a B := by
  cases h with
  | cons h1 h => cases h with
  | nil => exact ⟨_, rfl, h1⟩
theorem ita2 {B : Hp} {vs : List V} {I J : Item} (h : ItA B vs [I, J]) : ∃ a b, vs = [a, b] ∧ I.P a B ∧ J.P b B := by
  cases h with
  | cons h1 h =>
    obtain ⟨b, rfl, h2⟩ := ita1 h
    exact ⟨_, b, rfl, h1, h2⟩
theorem ita3 {B : Hp} {vs : List V} {I J L : Item} (h : ItA B vs [I, J, L]) : ∃ a b c, vs = [a, b, c] ∧ I.P a B ∧ J.P b B ∧ L.P c B := by
  cases h with
  | cons h1 h =>
    obtain ⟨b, c, rfl, h2, h3⟩ := ita2 h
    exact ⟨_, b, c, rfl, h1, h2, h3⟩
theorem ita4 {B : Hp} {vs : List V} {I J L M : Item} (h : ItA B vs [I, J, L, M]) : ∃ a b c d, vs = [a, b, c, d] ∧ I.P a B ∧ J.P b B ∧ L.P c B ∧ M.P d B := by
  cases h with
  | cons h1 h =>
    obtain ⟨b, c, d, rfl, h2, h3, h4⟩ := ita3 h
    exact ⟨_, b, c, d, rfl, h1, h2, h3, h4⟩
theorem ita5 {B : Hp} {vs : List V} {I J L M N : Item} (h : ItA B vs [I, J, L, M, N]) : ∃ a b c d e, vs = [a, b, c, d, e] ∧ I.P a B ∧ J.P b B ∧ L.P c B ∧ M.P d B ∧ N.P e B := by
  cases h with
  | cons h1 h =>
    obtain ⟨b, c, d, e, rfl, h2, h3, h4, h5⟩ := ita4 h
    exact ⟨_, b, c, d, e, rfl, h1, h2, h3, h4, h5⟩
theorem ita6 {B : Hp} {vs : List V} {I J L M N O : Item} (h : ItA B vs [I, J, L, M, N, O]) : ∃ a b c d e f, vs = [a, b, c, d, e, f] ∧ I.P a B ∧ J.P b B ∧ L.P c B ∧ M.P d B ∧ N.P e B ∧ O.P f B := by
  cases h with
  | cons h1 h =>
    obtain ⟨b, c, d, e, f, rfl, h2, h3, h4, h5, h6⟩ := ita5 h
    exact ⟨_, b, c, d, e, f, rfl, h1, h2, h3, h4, h5, h6⟩
def tyD : PyData → String
  | .none => "NoneType"
  | .bool _ => "bool"
  | .int _ => "int"
  | .str _ => "str"
  | .list _ => "list"
  | .tuple _ => "tuple"
  | .dict _ => "dict"
theorem tyD_is {K : PySem.W.Frag} {A H : Hp} {v : V} {d : PyData} (s : Same A H) (r : Rp A v d) : TyX K H v (.type (tyD d)) := by
  cases r with
  | non => exact .base .non
  | bl b => exact .base (.bl b)
  | int i => exact .base (.int i)
  | str x => exact .base (.str x)
  | lst e _ => exact .base (.lst (s _ _ e))
  | tup e _ => exact .base (.tup (s _ _ e))
def isInt : PyData → Bool
  | .int _ => true
  | .bool _ => true
  | _ => false
def isBool : PyData → Bool
  | .bool _ => true
  | _ => false
def isTup : PyData → Bool
  | .tuple _ => true
  | _ => false
def isLst : PyData → Bool
  | .list _ => true
  | _ => false
def isStr : PyData → Bool
  | .str _ => true
  | _ => false
def noDict : PyData → Bool
  | .dict _ => false
  | _ => true
theorem Rp.noDict {A : Hp} {v : V} {d : PyData} (r : Rp A v d) : noDict d = true := by cases r <;> rfl
theorem kb_NoneType_int : kitB "NoneType" "int" = some false := by decide +kernel
theorem kb_NoneType_bool : kitB "NoneType" "bool" = some false := by decide +kernel
theorem kb_NoneType_tuple : kitB "NoneType" "tuple" = some false := by decide +kernel
theorem kb_NoneType_list : kitB "NoneType" "list" = some false := by decide +kernel
theorem kb_NoneType_str : kitB "NoneType" "str" = some false := by decide +kernel
theorem kb_bool_int : kitB "bool" "int" = some true := by decide +kernel
theorem kb_bool_bool : kitB "bool" "bool" = some true := by decide +kernel
theorem kb_bool_tuple : kitB "bool" "tuple" = some false := by decide +kernel
theorem kb_bool_list : kitB "bool" "list" = some false := by decide +kernel
theorem kb_bool_str : kitB "bool" "str" = some false := by decide +kernel
theorem kb_int_int : kitB "int" "int" = some true := by decide +kernel
theorem kb_int_bool : kitB "int" "bool" = some false := by decide +kernel
theorem kb_int_tuple : kitB "int" "tuple" = some false := by decide +kernel
theorem kb_int_list : kitB "int" "list" = some false := by decide +kernel
theorem kb_int_str : kitB "int" "str" = some false := by decide +kernel
theorem kb_str_int : kitB "str" "int" = some false := by decide +kernel
theorem kb_str_bool : kitB "str" "bool" = some false := by decide +kernel
theorem kb_str_tuple : kitB "str" "tuple" = some false := by decide +kernel
theorem kb_str_list : kitB "str" "list" = some false := by decide +kernel
theorem kb_str_str : kitB "str" "str" = some true := by decide +kernel
theorem kb_list_int : kitB "list" "int" = some false := by decide +kernel
theorem kb_list_bool : kitB "list" "bool" = some false := by decide +kernel
theorem kb_list_tuple : kitB "list" "tuple" = some false := by decide +kernel
theorem kb_list_list : kitB "list" "list" = some true := by decide +kernel
theorem kb_list_str : kitB "list" "str" = some false := by decide +kernel
theorem kb_tuple_int : kitB "tuple" "int" = some false := by decide +kernel
theorem kb_tuple_bool : kitB "tuple" "bool" = some false := by decide +kernel
theorem kb_tuple_tuple : kitB "tuple" "tuple" = some true := by decide +kernel
theorem kb_tuple_list : kitB "tuple" "list" = some false := by decide +kernel
theorem kb_tuple_str : kitB "tuple" "str" = some false := by decide +kernel
theorem kit_int {K : PySem.W.Frag} {d : PyData} (h : noDict d = true) : PySem.W.kitOne K (.type (tyD d)) (.type "int") = some (isInt d) := by
  cases d with
  | none => exact kit_ty kb_NoneType_int
  | bool b => exact kit_ty kb_bool_int
  | int i => exact kit_ty kb_int_int
  | str x => exact kit_ty kb_str_int
  | list xs => exact kit_ty kb_list_int
  | tuple xs => exact kit_ty kb_tuple_int
  | dict _ => cases h
theorem kit_bool {K : PySem.W.Frag} {d : PyData} (h : noDict d = true) : PySem.W.kitOne K (.type (tyD d)) (.type "bool") = some (isBool d) := by
  cases d with
  | none => exact kit_ty kb_NoneType_bool
  | bool b => exact kit_ty kb_bool_bool
  | int i => exact kit_ty kb_int_bool
  | str x => exact kit_ty kb_str_bool
  | list xs => exact kit_ty kb_list_bool
  | tuple xs => exact kit_ty kb_tuple_bool
  | dict _ => cases h
theorem kit_tuple {K : PySem.W.Frag} {d : PyData} (h : noDict d = true) : PySem.W.kitOne K (.type (tyD d)) (.type "tuple") = some (isTup d) := by
  cases d with
  | none => exact kit_ty kb_NoneType_tuple
  | bool b => exact kit_ty kb_bool_tuple
  | int i => exact kit_ty kb_int_tuple
  | str x => exact kit_ty kb_str_tuple
  | list xs => exact kit_ty kb_list_tuple
  | tuple xs => exact kit_ty kb_tuple_tuple
  | dict _ => cases h
theorem kit_list {K : PySem.W.Frag} {d : PyData} (h : noDict d = true) : PySem.W.kitOne K (.type (tyD d)) (.type "list") = some (isLst d) := by
  cases d with
  | none => exact kit_ty kb_NoneType_list
  | bool b => exact kit_ty kb_bool_list
  | int i => exact kit_ty kb_int_list
  | str x => exact kit_ty kb_str_list
  | list xs => exact kit_ty kb_list_list
  | tuple xs => exact kit_ty kb_tuple_list
  | dict _ => cases h
theorem kit_str {K : PySem.W.Frag} {d : PyData} (h : noDict d = true) : PySem.W.kitOne K (.type (tyD d)) (.type "str") = some (isStr d) := by
  cases d with
  | none => exact kit_ty kb_NoneType_str
  | bool b => exact kit_ty kb_bool_str
  | int i => exact kit_ty kb_int_str
  | str x => exact kit_ty kb_str_str
  | list xs => exact kit_ty kb_list_str
  | tuple xs => exact kit_ty kb_tuple_str
  | dict _ => cases h

section
variable {K : PySem.W.Frag} {σ : L2.St} {H : Hp} {te ta : TE} {d : PyData}
theorem ev_ty {n : String} : Ev (tC (.ty n)) σ H (xv (.ty n)) := ev_c rfl
theorem ev_isi {T : String} {f : PyData → Bool} (hk : ∀ {d : PyData}, noDict d = true → PySem.W.kitOne K (.type (tyD d)) (.type T) = some (f d)) (h : EvD te σ H d) : EvD (tCB (rIsi K) (tCons te (tCons (tC (.ty T)) tNil))) σ H (.bool (f d)) := fun H1 s Q q =>
  h H1 s _ fun v B2 H2 g2 p2 => ⟨v, .ty T, .type (tyD d), .type T, f d, rfl, .ty T, tyD_is g2.sub p2, hk (Rp.noDict p2), q _ B2 H2 g2 (.bl _)⟩
/-- isinstance(x, (list, tuple)) -/
theorem ev_isiLT (h : EvD te σ H d) : EvD (tCB (rIsiT K) (tCons te (tCons (tTup (tCons (tC (.ty "list")) (tCons (tC (.ty "tuple")) tNil))) tNil))) σ H (.bool (isLst d || isTup d)) := fun H1 s Q q =>
  h H1 s _ fun v B2 H2 g2 p2 => ⟨by decide, fun p hp => ⟨v, p, [.ty "list", .ty "tuple"], .type (tyD d), [.type "list", .type "tuple"], isLst d || isTup d, rfl, upd_same, .cons (.ty _) (.cons (.ty _) .nil), tyD_is (g2.sub.trans (same_new hp)) p2,
    kitAny_cons (kit_list (Rp.noDict p2)) (fun e => by rw [e, Bool.false_or]; exact kitAny_cons (kit_tuple (Rp.noDict p2)) (fun e => by rw [e]; exact kitAny_nil) fun e => e) (fun e => by rw [e, Bool.true_or]), q _ _ _ (g2.trans (Grow.alloc g2.sub hp)) (.bl _)⟩⟩
end
end Sky

set_option Elab.async false
set_option linter.all false
set_option maxRecDepth 100000
set_option maxHeartbeats 4000000
/-! Data of the law: seas, cells, places; their forms. -/
namespace Sky
open PySem PySem.Spec PyProof.Rows L2

abbrev Cell := Int × Int
abbrev Place := Int × Int × Int
def dC (c : Cell) : PyData := .tuple [.int c.1, .int c.2]
def dP (p : Place) : PyData := .tuple [.int p.1, .int p.2.1, .int p.2.2]
def dCs (cs : List Cell) : PyData := .list (cs.map dC)
def dPs (ps : List Place) : PyData := .list (ps.map dP)
def dTs (ts : List (List Place)) : PyData := .list (ts.map dPs)
def dO : Option Int → PyData
  | none => .none
  | some i => .int i
structure Sea where
  rows : List (List (Option Int))
  gusts : List (List (Option Int))
  top : Int
def dRow (r : List (Option Int)) : PyData := .list (r.map dO)
def dGust (r : List (Option Int)) : PyData := .tuple (r.map dO)
def dSea (s : Sea) : PyData := .tuple [.list (s.rows.map dRow), .list (s.gusts.map dGust), .int s.top]
def ok99 : Option Int → Prop
  | none => True
  | some i => 0 ≤ i ∧ i ≤ 99
structure SeaOk (s : Sea) : Prop where
  ne : 1 ≤ s.rows.length
  le : s.rows.length ≤ 3
  wide : ∃ w, 1 ≤ w ∧ w ≤ 3 ∧ ∀ r ∈ s.rows, r.length = w
  drag : ∀ r ∈ s.rows, ∀ d ∈ r, ok99 d
  gl : s.gusts.length ≤ 3
  gust : ∀ g ∈ s.gusts, g.length = 5 ∧ ∀ d ∈ g, ok99 d
  top1 : 1 ≤ s.top
  top99 : s.top ≤ 99
/-- the cells of water -/
def rowCells (j : Nat) (r : List (Option Int)) : List Cell := (List.range r.length).filterMap fun k => if (r.getD k none).isSome then some ((j : Int), (k : Int)) else none
def cells (s : Sea) : List Cell := (List.range s.rows.length).flatMap fun j => rowCells j (s.rows.getD j [])
def Sea.last (s : Sea) : Int := s.gusts.length
def spots (s : Sea) : List Place := (List.range (s.gusts.length + 1)).flatMap fun (h : Nat) => (cells s).map fun c => ((h : Int), c.1, c.2)

/-! ### equality of data -/
theorem eqv_int (i j : Int) : PyData.eqv (.int i) (.int j) = decide (i = j) := by
  simp only [PyData.eqv]
  exact Bool.beq_eq_decide_eq i j
theorem eqv_dC (c d : Cell) : PyData.eqv (dC c) (dC d) = decide (c = d) := by
  obtain ⟨a, b⟩ := c
  obtain ⟨a', b'⟩ := d
  show PyData.eqv (.tuple [.int a, .int b]) (.tuple [.int a', .int b']) = _
  simp only [PyData.eqv, PyData.eqvAll, Bool.and_true]
  by_cases h1 : a = a'
  · by_cases h2 : b = b'
    · subst h1 h2
      simp
    · simp [h2]
  · simp [h1]
theorem eqv_dP (c d : Place) : PyData.eqv (dP c) (dP d) = decide (c = d) := by
  obtain ⟨a, b, e⟩ := c
  obtain ⟨a', b', e'⟩ := d
  show PyData.eqv (.tuple [.int a, .int b, .int e]) (.tuple [.int a', .int b', .int e']) = _
  simp only [PyData.eqv, PyData.eqvAll, Bool.and_true]
  by_cases h1 : a = a'
  · by_cases h2 : b = b'
    · by_cases h3 : e = e'
      · subst h1 h2 h3
        simp
      · simp [h3]
    · simp [h2]
  · simp [h1]
theorem any_dC (c : Cell) (l : List Cell) : (l.map dC).any (fun z => PyData.eqv z (dC c)) = decide (c ∈ l) := by
  induction l with
  | nil => simp
  | cons d l ih =>
    rw [List.map_cons, List.any_cons, ih, eqv_dC]
    by_cases h : d = c
    · simp [h]
    · have h' : ¬ c = d := fun e => h e.symm
      simp [h, h']
theorem any_dP (c : Place) (l : List Place) : (l.map dP).any (fun z => PyData.eqv z (dP c)) = decide (c ∈ l) := by
  induction l with
  | nil => simp
  | cons d l ih =>
    rw [List.map_cons, List.any_cons, ih, eqv_dP]
    by_cases h : d = c
    · simp [h]
    · have h' : ¬ c = d := fun e => h e.symm
      simp [h, h']

/-! ### the library's look at data -/
theorem lay_all {α : Type} {f : α → PyData} (h : ∀ x, (f x).canLay0 = true) : ∀ l : List α, PyData.canLayAll0 (l.map f) = true
  | [] => by simp [PyData.canLayAll0]
  | x :: l => by simp [PyData.canLayAll0, h x, lay_all h l]
theorem dep_all {α : Type} {f : α → PyData} {n : Nat} (h : ∀ x, (f x).depth ≤ n) : ∀ l : List α, PyData.depthAll (l.map f) ≤ n
  | [] => by simp [PyData.depthAll]
  | x :: l => by
    have h1 := dep_all h l
    have h2 := h x
    simp only [List.map_cons, PyData.depthAll]
    omega
theorem lay_dC (c : Cell) : (dC c).canLay0 = true := by simp [dC, PyData.canLay0, PyData.canLayAll0]
theorem lay_dP (c : Place) : (dP c).canLay0 = true := by simp [dP, PyData.canLay0, PyData.canLayAll0]
theorem dep_dC (c : Cell) : (dC c).depth ≤ 1 := by simp [dC, PyData.depth, PyData.depthAll]
theorem dep_dP (c : Place) : (dP c).depth ≤ 1 := by simp [dP, PyData.depth, PyData.depthAll]
theorem lay_dPs (c : List Place) : (dPs c).canLay0 = true := by
  simp only [dPs, PyData.canLay0]
  exact lay_all lay_dP c
theorem dep_dPs (c : List Place) : (dPs c).depth ≤ 2 := by
  have := dep_all dep_dP c
  simp only [dPs, PyData.depth]
  omega
theorem shaped_of {d : PyData} (h : d.canLay0 = true) {n : Nat} (k : d.depth ≤ n) (hn : n ≤ 64) : SeqAt.shaped d = true := by
  show (d.canLay0 && decide (d.depth ≤ 64)) = true
  rw [h, Bool.true_and]
  exact decide_eq_true (Nat.le_trans k hn)
theorem sh_dC (c : Cell) : SeqAt.shaped (dC c) = true := shaped_of (lay_dC c) (dep_dC c) (by decide)
theorem sh_dP (c : Place) : SeqAt.shaped (dP c) = true := shaped_of (lay_dP c) (dep_dP c) (by decide)
theorem sh_dCs (l : List Cell) : SeqAt.shaped (.list (l.map dC)) = true := shaped_of (n := 2) (by simp only [PyData.canLay0]; exact lay_all lay_dC l) (by have := dep_all dep_dC l; simp only [PyData.depth]; omega) (by decide)
theorem sh_dPs (l : List Place) : SeqAt.shaped (.list (l.map dP)) = true := shaped_of (lay_dPs l) (dep_dPs l) (by decide)
theorem sh_dTs (l : List (List Place)) : SeqAt.shaped (.list (l.map dPs)) = true := shaped_of (n := 3) (by simp only [PyData.canLay0]; exact lay_all lay_dPs l) (by have := dep_all dep_dPs l; simp only [PyData.depth]; omega) (by decide)

/-! ### sorted lists of data -/
def ltC (c d : Cell) : Prop := c.1 < d.1 ∨ (c.1 = d.1 ∧ c.2 < d.2)
def ltP (c d : Place) : Prop := c.1 < d.1 ∨ (c.1 = d.1 ∧ ltC c.2 d.2)
theorem alike_dC (l : List Cell) : PySem.W.AllAlike (l.map dC) := PySem.W.AllAlike.of fun _ _ => by simp [dC, PySem.W.alike, PySem.W.alikeAll]
theorem alike_dP (l : List Place) : PySem.W.AllAlike (l.map dP) := PySem.W.AllAlike.of fun _ _ => by simp [dP, PySem.W.alike, PySem.W.alikeAll]
theorem sortable_dC (l : List Cell) : PySem.W.Sortable (l.map dC) := PySem.W.Sortable.tuples fun b => ⟨_, _, rfl⟩
theorem sortable_dP (l : List Place) : PySem.W.Sortable (l.map dP) := PySem.W.Sortable.tuples fun b => ⟨_, _, rfl⟩
end Sky

set_option Elab.async false
set_option linter.all false
set_option maxRecDepth 100000
set_option maxHeartbeats 4000000
/-! Rules of my own: ==, is None, any, all, abs, sum, the comprehension of two walks, class constants. -/
namespace Sky
open PySem PySem.Spec PyProof.Rows L2
section
variable {K : PySem.W.Frag} {σ : L2.St} {H H' : Hp} {ta tb te : TE} {tr : TA} {x y z v : V} {I J L : Item} {d e : PyData} {ds es : List PyData} {b c : Bool} {i j : Int} {bs : List Bool}
theorem dec_int : decide (V.int i = V.int j) = decide (i = j) := by
  by_cases c : i = j
  · rw [decide_eq_true c, c, decide_eq_true rfl]
  · rw [decide_eq_false c, decide_eq_false fun h => c (V.int.inj h)]
theorem ev_eqI (ha : EvD ta σ H (.int i)) (hb : EvD tb σ H (.int j)) : EvD (tOp rEq ta tb) σ H (.bool (decide (i = j))) :=
  ev_op ha hb fun x y A H s p1 p2 Q q => by
    rw [Rp.int_eq p1, Rp.int_eq p2]
    exact ⟨rfl, q _ A H (Grow.refl s) (by rw [dec_int]; exact .bl _)⟩
theorem ev_neI (ha : EvD ta σ H (.int i)) (hb : EvD tb σ H (.int j)) : EvD (tOp rNe ta tb) σ H (.bool (!decide (i = j))) :=
  ev_op ha hb fun x y A H s p1 p2 Q q => by
    rw [Rp.int_eq p1, Rp.int_eq p2]
    exact ⟨rfl, q _ A H (Grow.refl s) (by rw [dec_int]; exact .bl _)⟩
def isNon : PyData → Bool
  | .none => true
  | _ => false
theorem dec_non {A : Hp} (r : Rp A v d) : decide (v = .non) = isNon d := by
  cases r <;> rfl
theorem ev_isN (ha : EvD ta σ H d) : EvD (tOp (fun x y H Q => y = .non ∧ Q (.bl (decide (x = .non))) H) ta (tC .non)) σ H (.bool (isNon d)) :=
  ev_op ha ev_non fun x y A H s p1 p2 Q q => ⟨Rp.non_eq p2, q _ A H (Grow.refl s) (by rw [dec_non p1]; exact .bl _)⟩
theorem ev_notN (ha : EvD ta σ H d) : EvD (tOp (fun x y H Q => y = .non ∧ Q (.bl (!decide (x = .non))) H) ta (tC .non)) σ H (.bool (!isNon d)) :=
  ev_op ha ev_non fun x y A H s p1 p2 Q q => ⟨Rp.non_eq p2, q _ A H (Grow.refl s) (by rw [dec_non p1]; exact .bl _)⟩
theorem rpa_bools {A : Hp} : ∀ {bs : List Bool} {vs : List V}, RpA A vs (bs.map PyData.bool) → vs = bs.map V.bl
  | [], _, .nil => rfl
  | b :: bs, _, .cons r t => by rw [Rp.bl_eq r, rpa_bools t]; rfl
theorem ev_any (h : EvD te σ H (.list (bs.map .bool))) : EvD (tCB (rAny K) (tCons te tNil)) σ H (.bool (bs.any id)) := fun H1 s Q q =>
  h H1 s _ fun v B2 H2 g2 p2 => by
    obtain ⟨a, xs, rfl, e, r⟩ := Rp.lst_eq p2
    rw [rpa_bools r] at e
    exact ⟨a, bs, rfl, SqL.of (g2.sub _ _ e), q _ B2 H2 g2 (.bl _)⟩
theorem ev_all (h : EvD te σ H (.list (bs.map .bool))) : EvD (tCB (rAll K) (tCons te tNil)) σ H (.bool (bs.all id)) := fun H1 s Q q =>
  h H1 s _ fun v B2 H2 g2 p2 => by
    obtain ⟨a, xs, rfl, e, r⟩ := Rp.lst_eq p2
    rw [rpa_bools r] at e
    exact ⟨a, bs, rfl, SqL.of (g2.sub _ _ e), q _ B2 H2 g2 (.bl _)⟩
theorem ev_abs (h : EvD te σ H (.int i)) : EvD (tCB (fun xs H Q => ∃ i, xs = [V.int i] ∧ Q (.int (if i < 0 then -i else i)) H) (tCons te tNil)) σ H (.int (if i < 0 then -i else i)) := fun H1 s Q q =>
  h H1 s _ fun v B2 H2 g2 p2 => ⟨i, by rw [Rp.int_eq p2], q _ B2 H2 g2 (.int _)⟩
/-- a class constant -/
theorem ev_cval {f : Str} {C : Addr} {mc u : Value} (h : EvV ta σ H (.ref C)) (r : ClX.CRead K C mc) (k : ClX.CVal K C mc f v u) (p : I.P v H) : Ev (ClX.tCVal K ta f) σ H I := fun H1 s Q q =>
  h H1 s _ fun x B2 H2 g2 p2 => ⟨C, mc, v, u, p2, r, k, q v B2 H2 g2 (I.mono g2.base p)⟩
/-- what is drawn from a walk as a list: lists of what each turn adds -/
theorem ev_lc2 {wi wi1 : TI} {g g1 : TG} {tt tt1 : TT} {vs vs1 : List Nat} {n : Nat} {Y : Nat → Item} (f : Nat → List PyData) (hw : Wk wi σ H n Y) (hn : ∀ i, i ≤ n → ((List.range i).flatMap f).length ≤ 100000)
    (body : ∀ i x B, i < n → Same H B → (Y i).P x B → ∃ σ2, Gt g x (wipe σ vs) B σ2 ∧ wipe σ2 vs = wipe σ vs ∧ EvT tt σ2 B true ∧ ∃ m Y2 f2, Wk wi1 σ2 B m Y2 ∧ f i = (List.range m).filterMap f2 ∧
      ∀ j y B1, j < m → Same B B1 → (Y2 j).P y B1 → ∃ σ3 b, Gt g1 y (wipe σ2 vs1) B1 σ3 ∧ wipe σ3 vs1 = wipe σ2 vs1 ∧ EvT tt1 σ3 B1 b ∧ (b = false → f2 j = none) ∧ (b = true → ∃ d, f2 j = some d ∧ EvD te σ3 B1 d)) :
    EvD (tLc2 wi g tt wi1 g1 tt1 te vs vs1) σ H (.list ((List.range n).flatMap f)) := by
  intro H1 s Q q
  refine hw H1 s _ fun J B H2 g2 wj => ?_
  intro D hD
  have hBD : B D = none := g2.sub.free hD
  let Pd : List PyData → Hp → Prop := fun xs H => ∃ Bi acc, Grow B H2 Bi H ∧ Bi D = none ∧ H D = some (.lst acc) ∧ RpA Bi acc xs
  refine ⟨fun i m H => m = n - i ∧ i ≤ n ∧ Pd ((List.range i).flatMap f) H, ⟨n, by simp, Nat.zero_le _, B, [], ⟨Same.refl B, same_new hD, Same.put g2.sub hBD, fun _ _ h _ _ => h⟩, hBD, upd_same, .nil⟩, ?_⟩
  rintro i m Hi ⟨rfl, hi, Bi, acc, gi, hDi, eD, ra⟩
  by_cases hlt : i < n
  · refine .inr ⟨wj.go i Hi (gi.base.trans gi.sub) hlt, fun H' => Pd ((List.range (i + 1)).flatMap f) H', fun H' p => ⟨n - (i + 1), by omega, rfl, hlt, p⟩, fun x H' y => ?_⟩
    obtain ⟨B', g', p'⟩ := (wj.mono gi.base).yld i Hi x H' gi.sub hlt y
    have hD' : B' D = none := g'.new D _ hDi eD (fun _ h => nomatch h)
    obtain ⟨σ2, hg, hwp, ht, m, Y2, f2, hw2, ef, hb⟩ := body i x B' hlt (g2.base.trans (gi.base.trans g'.base)) p'
    refine hg H' g'.sub _ ⟨hwp, ht H' g'.sub _ fun B3 H3 g3 => ?_⟩
    rw [if_pos rfl]
    refine hw2.mono g3.base H3 g3.sub _ fun J1 B4 H4 g4 wk => ?_
    have gT := (gi.trans g').trans (g3.trans g4)
    have e4 : H4 D = some (.lst acc) := g4.top _ _ (g3.top _ _ (g'.top _ _ eD))
    have hD4 : B4 D = none := g4.new D _ (g3.new D _ hD' (g'.top _ _ eD) (fun _ h => nomatch h)) (g3.top _ _ (g'.top _ _ eD)) (fun _ h => nomatch h)
    have ra4 := ra.mono (Sd.of (g'.base.trans (g3.base.trans g4.base)))
    have efl : (List.range (i + 1)).flatMap f = (List.range i).flatMap f ++ f i := by
      rw [List.range_succ, List.flatMap_append]
      simp
    refine ⟨fun j k H => k = m - j ∧ j ≤ m ∧ ∃ Bj acc, Same B4 Bj ∧ Grow B H2 Bj H ∧ Bj D = none ∧ H D = some (.lst acc) ∧ RpA Bj acc ((List.range i).flatMap f ++ (List.range j).filterMap f2),
      ⟨m, by simp, Nat.zero_le _, B4, acc, Same.refl _, gT, hD4, e4, by rw [show (List.range 0).filterMap f2 = [] from rfl, List.append_nil]; exact ra4⟩, ?_⟩
    rintro j k Hj ⟨rfl, hj, Bj, accj, gj, gjT, hDj, eDj, raj⟩
    by_cases hjm : j < m
    · refine .inr ⟨wk.go j Hj (gj.trans gjT.sub) hjm, fun H => ∃ Bj acc, Same B4 Bj ∧ Grow B H2 Bj H ∧ Bj D = none ∧ H D = some (.lst acc) ∧ RpA Bj acc ((List.range i).flatMap f ++ (List.range (j + 1)).filterMap f2),
        fun H' p => ⟨m - (j + 1), by omega, rfl, hjm, p⟩, fun x1 H5 y1 => ?_⟩
      obtain ⟨B5, g5, p5⟩ := (wk.mono gj).yld j Hj x1 H5 gjT.sub hjm y1
      have hD5 : B5 D = none := g5.new D _ hDj eDj (fun _ h => nomatch h)
      obtain ⟨σ3, bb, hg1, hwp1, ht1, hf, hy⟩ := hb j x1 B5 hjm (g3.base.trans (g4.base.trans (gj.trans g5.base))) p5
      refine hg1 H5 g5.sub _ ⟨hwp1, ht1 H5 g5.sub _ fun B6 H6 g6 => ?_⟩
      have e6 : H6 D = some (.lst accj) := g6.top _ _ (g5.top _ _ eDj)
      have hD6 : B6 D = none := g6.new D _ hD5 (g5.top _ _ eDj) (fun _ h => nomatch h)
      cases bb with
      | true =>
        rw [if_pos rfl]
        obtain ⟨d, hd, ed⟩ := hy rfl
        refine Ev.mono g6.base ed H6 g6.sub _ fun v B7 H7 g7 p7 => ?_
        have hD7 : B7 D = none := g7.new D _ hD6 e6 (fun _ h => nomatch h)
        have gb := ((gjT.trans g5).trans g6).trans g7
        have rj := (raj.mono (Sd.of (g5.base.trans (g6.base.trans g7.base)))).snoc p7
        have eapp : (List.range i).flatMap f ++ (List.range j).filterMap f2 ++ [d] = (List.range i).flatMap f ++ (List.range (j + 1)).filterMap f2 := by
          rw [List.append_assoc, List.range_succ, List.filterMap_append]
          simp [hd]
        rw [eapp] at rj
        refine ⟨accj, g7.top _ _ e6, ?_, B7, accj ++ [v], gj.trans (g5.base.trans (g6.base.trans g7.base)), ⟨gb.base, Same.put gb.top hD, Same.put gb.sub hD7, gb.new⟩, hD7, upd_same, rj⟩
        have z1 := raj.length
        have z2 := hn (i + 1) hlt
        rw [efl, ef] at z2
        have z3 : ((List.range m).filterMap f2).length = ((List.range j).filterMap f2).length + (((List.range m).drop j).filterMap f2).length := by
          have e0 : List.range m = (List.range j) ++ (List.range m).drop j := by
            have := (List.take_append_drop j (List.range m)).symm
            rw [List.take_range, Nat.min_eq_left hj] at this
            exact this
          have e1 := congrArg (fun l => (l.filterMap f2).length) e0
          simp only [List.filterMap_append, List.length_append] at e1
          exact e1
        rw [List.length_append] at z1 z2
        have : accj.length ≤ 100000 := by omega
        exact Nat.lt_of_le_of_lt this (by decide)
      | false =>
        rw [if_neg Bool.false_ne_true]
        have gb := (gjT.trans g5).trans g6
        have hd := hf rfl
        have eapp : (List.range i).flatMap f ++ (List.range j).filterMap f2 = (List.range i).flatMap f ++ (List.range (j + 1)).filterMap f2 := by
          rw [List.range_succ, List.filterMap_append]
          simp [hd]
        rw [eapp] at raj
        exact ⟨B6, accj, gj.trans (g5.base.trans g6.base), gb, hD6, e6, raj.mono (Sd.of (g5.base.trans g6.base))⟩
    · have e : j = m := by omega
      subst e
      rw [← ef, ← efl] at raj
      exact .inl ⟨wk.stop Hj (gj.trans gjT.sub), Bj, accj, gjT, hDj, eDj, raj⟩
  · have e : i = n := by omega
    subst e
    refine .inl ⟨wj.stop Hi (gi.base.trans gi.sub), ?_⟩
    refine q (.ref D) (upd Bi D (.lst acc)) Hi (g2.trans ⟨gi.base.trans (same_new hDi), gi.top, fun b o h => ?_, fun a u h1 h2 h3 => ?_⟩) (.lst upd_same (ra.mono (Sd.of (same_new hDi))))
    · by_cases hb : b = D
      · subst hb
        rw [upd_same] at h
        rw [eD]
        exact h
      · rw [upd_ne hb] at h
        exact gi.sub b o h
    · have hb : a ≠ D := fun z => by
        subst z
        rw [hD] at h2
        cases h2
      rw [upd_ne hb]
      exact gi.new a u h1 h2 h3
end
end Sky

set_option Elab.async false
set_option linter.all false
set_option maxRecDepth 100000
set_option maxHeartbeats 4000000
/-! What of the written part the defs lean on: tuples of the module, classes. -/
namespace Sky
open PySem PySem.Spec PyProof.Rows L2
structure Wd where
  dir : Addr
  fwd : Addr
  f0 : Addr
  f1 : Addr
  f2 : Addr
  f3 : Addr
  f4 : Addr
  cc : Addr
  ct : Addr
  cg : Addr
  mt : Value
def chartFields : List Str := ["top", "last", "held_rows", "held_winds", "drags"]
def tripFields : List Str := ["chart", "start", "goal", "first", "last", "_barred"]
structure Kc (K : PySem.W.Frag) (mg : Str → Option Value) (W : Wd) : Prop where
  g_DIRECTIONS : mg "DIRECTIONS" = some (.ref W.dir)
  dir : ∃ ys : List V, ys.length = 5 ∧ ∀ H, SqT K H W.dir ys
  g_FORWARD : mg "FORWARD" = some (.ref W.fwd)
  fwd : ∀ H, SqT K H W.fwd [.ref W.f0, .ref W.f1, .ref W.f2, .ref W.f3, .ref W.f4]
  fw0 : ∀ H, SqT K H W.f0 [.int 1, .int (-1), .int 0]
  fw1 : ∀ H, SqT K H W.f1 [.int 4, .int 0, .int (-1)]
  fw2 : ∀ H, SqT K H W.f2 [.int 0, .int 0, .int 0]
  fw3 : ∀ H, SqT K H W.f3 [.int 2, .int 0, .int 1]
  fw4 : ∀ H, SqT K H W.f4 [.int 3, .int 1, .int 0]
  g_Chart : mg "Chart" = some (.ref W.cc)
  rdC : ClX.CRead K W.cc W.mt
  rows : ∃ t, ClX.CVal K W.cc W.mt "MOST_ROWS" (.int 6) (.int 6 t)
  hours : ∃ t, ClX.CVal K W.cc W.mt "MOST_HOURS" (.int 8) (.int 8 t)
  clsC : Cls K W.cc
  clsT : Cls K W.ct
  clsG : Cls K W.cg
  noC : ∀ f ∈ chartFields, NoAttr K W.cc f
  noT : ∀ f ∈ tripFields, NoAttr K W.ct f
  noG : ∀ f ∈ tripFields, NoAttr K W.cg f
  neTG : W.ct ≠ W.cg
section
variable {K : PySem.W.Frag} {mg : Str → Option Value} {W : Wd} {σ : L2.St} {H : Hp}
theorem ev_dir (Z : Kc K mg W) : EvD (tCB (rLn K) (tCons (tC (.ref W.dir)) tNil)) σ H (.int 5) := fun H1 s Q q => by
  obtain ⟨ys, hl, h⟩ := Z.dir
  exact ⟨W.dir, ys, rfl, .inr (h H1), q _ H H1 (Grow.refl s) (by rw [hl]; exact .int _)⟩
theorem ev_MR (Z : Kc K mg W) : EvD (ClX.tCVal K (tC (.ref W.cc)) "MOST_ROWS") σ H (.int 6) := ev_cval (ev_c rfl) Z.rdC Z.rows.choose_spec (.int 6)
theorem ev_MH (Z : Kc K mg W) : EvD (ClX.tCVal K (tC (.ref W.cc)) "MOST_HOURS") σ H (.int 8) := ev_cval (ev_c rfl) Z.rdC Z.hours.choose_spec (.int 8)
end
end Sky

set_option Elab.async false
set_option linter.all false
set_option maxRecDepth 100000
set_option maxHeartbeats 4000000
/-! The rules that name the written part, with it given (for blocks); owned objects: known to nobody, written. -/
namespace Sky
open PySem PySem.Spec PyProof.Rows L2
section
variable {X : Cx} (K : PySem.W.Frag) (hK : X.K = K) {e e2 a l tg : Expr} {es : List Expr} {f : Str} {pos p tpos : Pos} {te ta tl : TE} {tr : TA} {t : TGs} {n k kk : Nat} {elts : List Expr}
include hK
theorem pe_fldK (he : PE X e ta) (hb : attributeBase e f X.env (eval e X.env) = eval e X.env) : PE X (.Attribute e f pos) (tFld K ta f) := hK ▸ pe_fld he hb
theorem ix_listK : IxR X (rIxL K) := hK ▸ ix_list
theorem ix_tupK : IxR X (rIxT K) := hK ▸ ix_tup
theorem sl_listK : SlR X (rSlL K) := hK ▸ sl_list
theorem sl_tupK : SlR X (rSlT K) := hK ▸ sl_tup
theorem pg_tupK (hc : X.calm = true) (h : PGs X es t) (hn : (assignEach es X.env).length = n) (hf : List.findIdx? (fun x => x.fst) (assignEach es X.env) = none) : PG X (.Tuple es k pos) (gTup K n t) := hK ▸ pg_tup hc h hn hf
theorem pi_listK (h : PE X l tl) : PI X tg l (iList K tl) := hK ▸ pi_list h
theorem pi_tupK (h : PE X l tl) : PI X tg l (iTup K tl) := hK ▸ pi_tup h
theorem pi_enumK (h1 : Gl X "enumerate") (h2 : X.mg "enumerate" = none) (h : PA X [e] tr) (hs : starEach [e] X.env = [(false, eval e X.env)]) : PI X (.Tuple elts kk tpos) (.Call (.Name "enumerate" p) [e] [] pos) (iEnum K tr) := hK ▸ pi_enum h1 h2 h hs
theorem pi_zipK (h1 : Gl X "zip") (h2 : X.mg "zip" = none) (h : PA X [e, e2] tr) (hs : starEach [e, e2] X.env = (false, eval e X.env) :: starEach [e2] X.env) (hn : ((backTo pos (starEach [e2] X.env)).any fun x => x.fst) = false) : PI X (.Tuple elts kk tpos) (.Call (.Name "zip" p) [e, e2] [] pos) (iZip K tr) := hK ▸ pi_zip h1 h2 h hs hn
theorem pi_reversedK (h1 : Gl X "reversed") (h2 : X.mg "reversed" = none) (h : PA X [e] tr) (hs : starEach [e] X.env = [(false, eval e X.env)]) : PI X tg (.Call (.Name "reversed" p) [e] [] pos) (iRev K tr) := hK ▸ pi_reversed h1 h2 h hs
theorem call_lenK : CallR X (.builtin "len") (rLn K) := hK ▸ call_len_seq
theorem call_listK : CallR X (.type "list") (rLs K) := hK ▸ call_list_of
theorem call_tupleK : CallR X (.type "tuple") (rTp K) := hK ▸ call_tuple_of
theorem op_eqDK (h : X.A.units + 64 < cLine) : OpR X (compareOp CmpOp.Eq) (rEqD K) := hK ▸ op_eqD h
theorem op_neDK (h : X.A.units + 64 < cLine) : OpR X (compareOp CmpOp.NotEq) (rNeD K) := hK ▸ op_neD h
theorem op_inDK (h : X.A.units + 65 < cLine) : OpR X (compareOp CmpOp.In) (rInD K) := hK ▸ op_inD h
theorem op_notInDK (h : X.A.units + 65 < cLine) : OpR X (compareOp CmpOp.NotIn) (rNotInD K) := hK ▸ op_notInD h
theorem op_catTK : OpR X (binaryOp Operator.Add) (rCatT K) := hK ▸ op_catT
theorem cr_anyK (hc : X.calm = true) : CallR X (.builtin "any") (rAny K) := hK ▸ cr_any hc
theorem cr_allK (hc : X.calm = true) : CallR X (.builtin "all") (rAll K) := hK ▸ cr_all hc
theorem cr_sumK (hc : X.calm = true) : CallR X (.builtin "sum") (rSum K) := hK ▸ cr_sum hc
theorem call_isiK : CallR X (.builtin "isinstance") (rIsi K) := hK ▸ call_isi
theorem pa_starK (h : PE X e te) (hr : PA X es tr) (hs : starEach (.Starred e p :: es) X.env = (true, eval e X.env) :: starEach es X.env) : PA X (.Starred e p :: es) (StX.tStar K te tr) := hK ▸ StX.pa_star h hr hs
end

/-! ### owned objects -/
section
variable {A A1 B H B1 H1 : Hp} {a : Addr} {o : HO} {K : PySem.W.Frag} {σ : L2.St} {D : Ends} {tu : TS} {te ta tv td ty : TE} {I J : Item} {d : PyData} {b : Bool} {v : V}
theorem Grow.put (g : Grow A A1 B H) (h1 : A1 a = none) (h2 : B a = none) : Grow A A1 B (upd H a o) := ⟨g.base, Same.put g.top h1, Same.put g.sub h2, g.new⟩
theorem sub_commit (s : Same B H) (h3 : H a = some o) : Same (upd B a o) H := fun b u h => by
  by_cases hb : b = a
  · subst hb
    rw [upd_same] at h
    rw [h3]
    exact h
  · rw [upd_ne hb] at h
    exact s b u h
theorem Grow.commit (g : Grow A A1 B H) (h1 : A1 a = none) (h2 : B a = none) (h3 : H a = some o) : Grow A A1 (upd B a o) H :=
  ⟨g.base.trans (same_new h2), g.top, sub_commit g.sub h3, fun c u e n t => by
    have hb : c ≠ a := fun z => by
      subst z
      rw [h1] at n
      cases n
    rw [upd_ne hb]
    exact g.new c u e n t⟩
theorem Grow.kept (g : Grow B H B1 H1) (h2 : B a = none) (h3 : H a = some o) (nt : NoTup o := by intro _ h; cases h) : B1 a = none ∧ H1 a = some o := ⟨g.new a o h2 h3 nt, g.top _ _ h3⟩
/-- the base without a -/
def del (B : Hp) (a : Addr) : Hp := fun b => if b = a then none else B b
theorem del_at : del B a a = none := by unfold del; rw [if_pos rfl]
theorem del_ne {b : Addr} (h : b ≠ a) : del B a b = B b := by unfold del; rw [if_neg h]
theorem del_sub : Same (del B a) B := fun b u e => by
  by_cases h : b = a
  · subst h
    rw [del_at] at e
    cases e
  · rw [del_ne h] at e
    exact e
/-- what was known for a while is owned again -/
theorem Grow.del (g : Grow (upd B a o) H B1 H1) (h2 : B a = none) (h3 : H a = some o) : Grow B H (del B1 a) H1 :=
  ⟨fun b u e => by
    have hb : b ≠ a := ne_of_none e h2
    rw [del_ne hb]
    exact g.base b u (by rw [upd_ne hb]; exact e), g.top, del_sub.trans g.sub, fun c u e n t => by
    by_cases hb : c = a
    · rw [hb]
      exact del_at
    · rw [del_ne hb]
      exact g.new c u (by rw [upd_ne hb]; exact e) n t⟩
theorem Sd.del (n : NoSeq (B a)) : Sd B (del B a) := by
  refine ⟨fun b xs e => ?_, fun b xs e => ?_⟩
  all_goals
    by_cases h : b = a
    · subst h
      rw [e] at n
      exact n.elim
    · rw [del_ne h]
      exact e
/-- an item of data, whatever owned dict is read on the way -/
theorem evd_open (h : EvD te σ (upd B a o) d) (n : NoSeq (some o)) (h2 : B a = none) (h3 : H a = some o) (s : Same B H) {Q : VK} (q : ∀ v B1 H1, Grow B H B1 H1 → Rp B1 v d → Q v H1) : te σ H Q :=
  h H (sub_commit s h3) Q fun v B1 H1 g p => q v _ H1 (g.del h2 h3) (Rp.mono (Sd.del (by rw [g.base a o upd_same]; exact n)) p)
theorem evt_open {tt : TT} (h : EvT tt σ (upd B a o) b) (h2 : B a = none) (h3 : H a = some o) (s : Same B H) {Q : Bool → Hp → Prop} (q : ∀ B1 H1, Grow B H B1 H1 → Q b H1) : tt σ H Q :=
  h H (sub_commit s h3) Q fun B1 H1 g => q _ H1 (g.del h2 h3)
/-- o.f = e, o owned -/
theorem s_fldO {f : Str} {x C dx : Addr} {fs : List (Str × V)} {i : Nat} (hv : Ev tv σ B I) (s : Same B H) (hs : σ[i]? = some (some (.ref x))) (hx : B x = none) (eH : H x = some (.ins C dx fs)) (c : Cls K C) (n : NoAttr K C f) (hl : fs.length < 1000)
    (k : ∀ v B1 H1, Grow B H B1 H1 → I.P v B1 → B1 x = none → H1 x = some (.ins C dx fs) → tu D σ (upd H1 x (.ins C dx (putF f v fs)))) : tSeq (sFld K (tVar i) tv f) tu D σ H :=
  hv H s _ fun v B1 H1 g p => ⟨_, hs, x, C, dx, fs, rfl, (g.kept hx eH).2, c, n, hl, k v B1 H1 g p (g.kept hx eH).1 (g.kept hx eH).2⟩
theorem s_fldO1 {f : Str} {x C dx : Addr} {fs : List (Str × V)} {i : Nat} (hv : Ev tv σ B I) (s : Same B H) (hs : σ[i]? = some (some (.ref x))) (hx : B x = none) (eH : H x = some (.ins C dx fs)) (c : Cls K C) (n : NoAttr K C f) (hl : fs.length < 1000)
    (k : ∀ v B1 H1, Grow B H B1 H1 → I.P v B1 → B1 x = none → H1 x = some (.ins C dx fs) → D.nx σ (upd H1 x (.ins C dx (putF f v fs)))) : sFld K (tVar i) tv f D σ H :=
  hv H s _ fun v B1 H1 g p => ⟨_, hs, x, C, dx, fs, rfl, (g.kept hx eH).2, c, n, hl, k v B1 H1 g p (g.kept hx eH).1 (g.kept hx eH).2⟩

/-! ### dicts with tuple keys -/
def kI (is : List Int) : List Key := is.map .inl
def dI (is : List Int) : PyData := .tuple (is.map .int)
theorem rpa_ints {H : Hp} : ∀ {is : List Int} {xs : List V}, RpA H xs (is.map .int) → xs = (kI is).map kV
  | [], _, .nil => rfl
  | i :: is, _, .cons r t => by rw [Rp.int_eq r, rpa_ints t]; rfl
theorem Rp.key {H : Hp} {is : List Int} (r : Rp H v (dI is)) : ∃ p, v = .ref p ∧ H p = some (.tup ((kI is).map kV)) := by
  obtain ⟨p, xs, rfl, e, r⟩ := Rp.tup_eq r
  rw [rpa_ints r] at e
  exact ⟨p, rfl, e⟩
/-- a value read off a dict: this address, this content -/
def dtI (a : Addr) (kvs : List (List Key × V)) : Item := ⟨fun v H => v = .ref a ∧ H a = some (.dT kvs), fun s ⟨e, h⟩ => ⟨e, s _ _ h⟩⟩
theorem ev_din {kvs : List (List Key × V)} {is : List Int} (hk : EvD ty σ B (dI is)) (hd : Ev td σ B (dtI a kvs)) : EvD (tDIn ty td) σ B (.bool (valV kvs (kI is)).isSome) := fun H1 s Q q =>
  hk H1 s _ fun y B2 H2 g2 p2 => Ev.mono g2.base hd H2 g2.sub _ fun x B3 H3 g3 p3 => by
    obtain ⟨rfl, e⟩ := p3
    obtain ⟨p, rfl, e2⟩ := Rp.key p2
    exact ⟨a, _, rfl, DGet.t (g3.sub _ _ e) (g3.top _ _ (g2.sub _ _ e2)), q _ B3 H3 (g2.trans g3) (.bl _)⟩
theorem ev_dnotin {kvs : List (List Key × V)} {is : List Int} (hk : EvD ty σ B (dI is)) (hd : Ev td σ B (dtI a kvs)) : EvD (tDNotIn ty td) σ B (.bool (!(valV kvs (kI is)).isSome)) := fun H1 s Q q =>
  hk H1 s _ fun y B2 H2 g2 p2 => Ev.mono g2.base hd H2 g2.sub _ fun x B3 H3 g3 p3 => by
    obtain ⟨rfl, e⟩ := p3
    obtain ⟨p, rfl, e2⟩ := Rp.key p2
    exact ⟨a, _, rfl, DGet.t (g3.sub _ _ e) (g3.top _ _ (g2.sub _ _ e2)), q _ B3 H3 (g2.trans g3) (.bl _)⟩
theorem ev_dget {kvs : List (List Key × V)} {is : List Int} (hd : Ev td σ B (dtI a kvs)) (hk : EvD ty σ B (dI is)) (hv : valV kvs (kI is) = some v) (p : J.P v B) : Ev (tDGet td ty) σ B J := fun H1 s Q q =>
  hd H1 s _ fun x B2 H2 g2 p2 => Ev.mono g2.base hk H2 g2.sub _ fun y B3 H3 g3 p3 => by
    obtain ⟨rfl, e⟩ := p2
    obtain ⟨c, rfl, e2⟩ := Rp.key p3
    have z := DGet.t (k := kI is) (g3.top _ _ (g2.sub _ _ e)) (g3.sub _ _ e2)
    rw [hv] at z
    exact ⟨a, v, rfl, z, q _ B3 H3 (g2.trans g3) (J.mono (g2.trans g3).base p)⟩
/-- d[k] = e, d owned -/
theorem s_dputO {kvs : List (List Key × V)} {is : List Int} (hv : Ev tv σ B I) (s : Same B H) (hd : ∀ B1 H1, Grow B H B1 H1 → ∀ Q : VK, Q (.ref a) H1 → td σ H1 Q) (hk : EvD ty σ B (dI is)) (ha : B a = none) (eH : H a = some (.dT kvs)) (hl : kvs.length < sizeLine)
    (k : ∀ v B1 H1, Grow B H B1 H1 → I.P v B1 → B1 a = none → H1 a = some (.dT kvs) → D.nx σ (upd H1 a (.dT (putK kvs (kI is) v)))) : sDPut td ty tv D σ H :=
  hv H s _ fun v B1 H1 g p => hd B1 H1 g _ (Ev.mono g.base hk H1 g.sub _ fun y B3 H3 g3 p3 => by
    obtain ⟨c, rfl, e2⟩ := Rp.key p3
    have z := (g.trans g3).kept ha eH
    exact ⟨a, _, rfl, DPut.t z.2 (g3.sub _ _ e2) hl, k v B3 H3 (g.trans g3) (I.mono g3.base p) z.1 z.2⟩)
end
end Sky

set_option Elab.async false
set_option linter.all false
set_option maxRecDepth 100000
set_option maxHeartbeats 4000000
/-! Small defs of the program. -/
namespace Sky
open PySem PySem.Spec PyProof.Rows L2
section
variable {P : Program} {w : World} {K : PySem.W.Frag} {mg : Str → Option Value} {base : Heap} {W : Wd}
def isNum (d : PyData) (lo hi : Int) : Bool := match d with
  | .int i => decide (lo ≤ i) && decide (i ≤ hi)
  | _ => false
theorem int_of {d : PyData} (h : isInt d = true) (k : (!isBool d) = true) : ∃ i, d = .int i := by
  cases d with
  | int i => exact ⟨i, rfl⟩
  | bool b => simp [isBool] at k
  | _ => simp [isInt] at h
theorem isNum_eq (d : PyData) (lo hi : Int) : (isInt d && (!isBool d && isNum d lo hi)) = isNum d lo hi := by
  cases d <;> rfl
abbrev spNumber : Sp := SpF (fun x : PyData × Int × Int => [dt x.1, dt (.int x.2.1), dt (.int x.2.2)]) (fun _ => True) fun x => dt (.bool (isNum x.1 x.2.1 x.2.2))
theorem sc_is_number : FnScope ["value", "least", "most"] ["value", "least", "most"] (defScope s_is_number) := C8.fnScope_by (by decide +kernel)
theorem ok_is_number (T : Bt mg) (F : Dfn K mg "is_number" s_is_number ["value", "least", "most"]) : C8.Cal P w K mg base 1 "is_number" spNumber [] := by
  have sc := sc_is_number
  refine F.cal sc (SpF.len fun _ => rfl) fun f cdv A outer s H vs Q E hr hsp => ?_
  refine ⟨_, (pss_one (ps_ret (pe_and (pe_callB call_isi (by rfl) T.n_isinstance bb_isinstance (pa_cons (pv 0) (pa_cons (pe_bltn (v := .ty "int") (by rfl) T.n_int bb_int rfl) pa_nil))) (pe_and (pe_not (pe_callB call_isi (by rfl) T.n_isinstance bb_isinstance (pa_cons (pv 0) (pa_cons (pe_bltn (v := .ty "bool") (by rfl) T.n_bool bb_bool rfl) pa_nil)))) (pe_one (pe_chain op_le op_le (pv 1) (pv 0) (pv 2))))))), ?_⟩
  obtain ⟨⟨d, lo, hi⟩, B, hp, s0, ha, q⟩ := hsp
  dsimp only at hp ha q
  obtain ⟨v1, v2, v3, rfl, h1, h2, h3⟩ := ita3 ha
  refine s_ret ((ev_and (ev_isi kit_int (ev_var h1)) fun e1 => ev_and (c := isNum d lo hi) (ev_not (ev_isi kit_bool (ev_var h1))) fun e2 => ?_).is (congrArg PyData.bool (isNum_eq d lo hi))) s0 q
  obtain ⟨i, rfl⟩ := int_of e1 e2
  exact ev_chain (ev_var h2) (ev_var h1) fun _ => ev_var h3
def isCellD : PyData → Bool
  | .tuple [a, b] => isNum a 0 5 && isNum b 0 5
  | _ => false
def isPlaceD : PyData → Bool
  | .tuple [a, b, c] => isNum a 0 8 && (isNum b 0 5 && isNum c 0 5)
  | _ => false
def lenD : PyData → Int
  | .tuple xs => xs.length
  | _ => 0
theorem tup_of {d : PyData} {n : Nat} (h : (!isTup d || !decide (lenD d = (n : Int))) = false) : ∃ xs, d = .tuple xs ∧ xs.length = n := by
  cases d with
  | tuple xs =>
    refine ⟨xs, rfl, ?_⟩
    have h2 : (!decide ((xs.length : Int) = (n : Int))) = false := h
    by_cases e : (xs.length : Int) = (n : Int)
    · omega
    · rw [decide_eq_false e] at h2
      cases h2
  | _ => cases h
theorem ev_tupLen {K : PySem.W.Frag} {σ : L2.St} {B : Hp} {v : V} {d : PyData} {n : Int} {i : Nat} {te : TE} (e : (!isTup d) = false) (r : Rp B v d) (h : EvD te σ B (.int n)) (hs : σ[i]? = some (some v) := by rfl) :
    EvD (tOp rNe (tCB (rLn K) (tCons (tVar i) tNil)) te) σ B (.bool (!decide (lenD d = n))) := by
  cases d with
  | tuple xs => exact ev_neI (ev_cb (ea1 (ev_var (I := dt (.tuple xs)) r hs)) rc_lenT) h
  | _ => simp [isTup] at e
theorem notPair {d : PyData} (h : (!isTup d || !decide (lenD d = 2)) = true) : isCellD d = false := by
  unfold isCellD
  split
  · simp [isTup, lenD] at h
  · rfl
abbrev spCell : Sp := SpF (fun x : PyData => [dt x]) (fun _ => True) fun x => dt (.bool (isCellD x))
theorem sc_is_cell : FnScope ["value"] ["value"] (defScope s_is_cell) := C8.fnScope_by (by decide +kernel)
theorem ok_is_cell (T : Bt mg) (cis_number : C8.Cal P w K mg base 1 "is_number" spNumber []) (F : Dfn K mg "is_cell" s_is_cell ["value"]) : C8.Cal P w K mg base 2 "is_cell" spCell [] := by
  have sc := sc_is_cell
  refine F.cal sc (SpF.len fun _ => rfl) fun f cdv A outer s H vs Q E hr hsp => ?_
  refine ⟨_, (pss_cons (ps_if (PW.pt (pw_or (pt_not (pt_val (pe_callB call_isi (by rfl) T.n_isinstance bb_isinstance (pa_cons (pv 0) (pa_cons (pe_bltn (v := .ty "tuple") (by rfl) T.n_tuple bb_tuple rfl) pa_nil))))) (pw_or1 (pt_cmpR op_ne (pe_callB call_len_seq (by rfl) T.n_len bb_len (pa_cons (pv 0) pa_nil)) pe_int (nomark _))))) (pss_one (ps_ret pe_bl)) pss_nil)
    (pss_one (ps_ret (pe_and (C8.pe_c cis_number hr (by decide) (by rfl) (pa_cons (pe_ix ix_tup (pv 0) pe_int (fun _ _ => rfl)) (pa_cons pe_int (pa_cons (pe_glob (v := .int 5) (by rfl) T.g_LAST_INDEX.choose_spec ⟨_, rfl⟩) pa_nil)))) (pe_one (C8.pe_c cis_number hr (by decide) (by rfl) (pa_cons (pe_ix ix_tup (pv 0) pe_int (fun _ _ => rfl)) (pa_cons pe_int (pa_cons (pe_glob (v := .int 5) (by rfl) T.g_LAST_INDEX.choose_spec ⟨_, rfl⟩) pa_nil))))))))), ?_⟩
  obtain ⟨x, B, hp, s0, ha, q⟩ := hsp
  dsimp only at hp ha q
  obtain ⟨v1, rfl, h1⟩ := ita1 ha
  refine s_if1 (b := !isTup x || !decide (lenD x = 2)) (et_or (et_not (et_B (ev_isi kit_tuple (ev_var h1)))) fun e => et_test (ev_tupLen e h1 (ev_int (i := 2)))) s0 (fun e B1 H1 g => ?_) fun e B1 H1 g => ?_
  · refine s_retq (ev_bl (b := false)) g.sub fun v B2 H2 g2 p => q v B2 H2 (g.trans g2) ?_
    rw [notPair e]
    exact p
  · obtain ⟨xs, rfl, hl⟩ := tup_of (n := 2) e
    match xs, hl with
    | [a, b], _ =>
      have r : Rp B1 v1 (.tuple [a, b]) := h1.mono (Sd.of g.base)
      refine s_ret (ev_and (c := isNum b 0 5) (ev_call (a, 0, 5) (ea_cons (ev_op (ev_var r) ev_int (rv_ixT rfl)) (ea_cons ev_int (ea_cons ev_int ea_nil))) trivial) fun _ =>
        ev_call (b, 0, 5) (ea_cons (ev_op (ev_var r) ev_int (rv_ixT rfl)) (ea_cons ev_int (ea_cons ev_int ea_nil))) trivial) g.sub fun v B2 H2 g2 p => q v B2 H2 (g.trans g2) p
theorem notTrip {d : PyData} (h : (!isTup d || !decide (lenD d = 3)) = true) : isPlaceD d = false := by
  unfold isPlaceD
  split
  · simp [isTup, lenD] at h
  · rfl
abbrev spPlace : Sp := SpF (fun x : PyData => [dt x]) (fun _ => True) fun x => dt (.bool (isPlaceD x))
theorem sc_is_place : FnScope ["value"] ["value"] (defScope s_is_place) := C8.fnScope_by (by decide +kernel)
theorem ok_is_place (T : Bt mg) (cis_number : C8.Cal P w K mg base 1 "is_number" spNumber []) (cis_cell : C8.Cal P w K mg base 2 "is_cell" spCell []) (F : Dfn K mg "is_place" s_is_place ["value"]) : C8.Cal P w K mg base 3 "is_place" spPlace [] := by
  have sc := sc_is_place
  refine F.cal sc (SpF.len fun _ => rfl) fun f cdv A outer s H vs Q E hr hsp => ?_
  refine ⟨_, (pss_cons (ps_if (PW.pt (pw_or (pt_not (pt_val (pe_callB call_isi (by rfl) T.n_isinstance bb_isinstance (pa_cons (pv 0) (pa_cons (pe_bltn (v := .ty "tuple") (by rfl) T.n_tuple bb_tuple rfl) pa_nil))))) (pw_or1 (pt_cmpR op_ne (pe_callB call_len_seq (by rfl) T.n_len bb_len (pa_cons (pv 0) pa_nil)) pe_int (nomark _))))) (pss_one (ps_ret pe_bl)) pss_nil)
    (pss_one (ps_ret (pe_and (C8.pe_c cis_number hr (by decide) (by rfl) (pa_cons (pe_ix ix_tup (pv 0) pe_int (fun _ _ => rfl)) (pa_cons pe_int (pa_cons (pe_glob (v := .int 8) (by rfl) T.g_LAST_HOUR.choose_spec ⟨_, rfl⟩) pa_nil)))) (pe_one (C8.pe_c cis_cell hr (by decide) (by rfl) (pa_cons (pe_slice sl_tup (pv 0) (po_some pe_int) po_none) pa_nil))))))), ?_⟩
  obtain ⟨x, B, hp, s0, ha, q⟩ := hsp
  dsimp only at hp ha q
  obtain ⟨v1, rfl, h1⟩ := ita1 ha
  refine s_if1 (b := !isTup x || !decide (lenD x = 3)) (et_or (et_not (et_B (ev_isi kit_tuple (ev_var h1)))) fun e => et_test (ev_tupLen e h1 (ev_int (i := 3)))) s0 (fun e B1 H1 g => ?_) fun e B1 H1 g => ?_
  · refine s_retq (ev_bl (b := false)) g.sub fun v B2 H2 g2 p => q v B2 H2 (g.trans g2) ?_
    rw [notTrip e]
    exact p
  · obtain ⟨xs, rfl, hl⟩ := tup_of (n := 3) e
    match xs, hl with
    | [a, b, c], _ =>
      have r : Rp B1 v1 (.tuple [a, b, c]) := h1.mono (Sd.of g.base)
      refine s_ret (ev_and (c := isNum b 0 5 && isNum c 0 5) (ev_call (a, 0, 8) (ea_cons (ev_op (ev_var r) ev_int (rv_ixT rfl)) (ea_cons ev_int (ea_cons ev_int ea_nil))) trivial) fun _ =>
        ev_call (PyData.tuple [b, c]) (ea1 (ev_slT (ev_var r) (eo_some (ev_int (i := 1))) eo_none fun h => absurd (show HT.sIx 3 0 (some 1) = 0 from h.1) (by decide))) trivial) g.sub fun v B2 H2 g2 p => q v B2 H2 (g.trans g2) p
def absI (i : Int) : Int := if i < 0 then -i else i
def followsB (p o : Place) : Bool := decide (o.1 = p.1 + 1) && decide (absI (o.2.1 - p.2.1) + absI (o.2.2 - p.2.2) ≤ 1)
theorem gt_three {K : PySem.W.Frag} {σ : L2.St} {B : Hp} {v : V} {a b c : Int} {i j l : Nat} (r : Rp B v (.tuple [.int a, .int b, .int c])) : Gt (gTup K 3 (gCons (gName i) (gCons (gName j) (gCons (gName l) gNil)))) v σ B (((σ.set i (some (.int a))).set j (some (.int b))).set l (some (.int c))) := by
  obtain ⟨p, xs, rfl, e, r⟩ := Rp.tup_eq r
  cases r with
  | cons r1 r => cases r with
  | cons r2 r => cases r with
  | cons r3 r =>
    cases r
    rw [Rp.int_eq r1, Rp.int_eq r2, Rp.int_eq r3] at e
    exact gt_tup e rfl (gts_cons gt_name (gts_cons gt_name (gts_cons gt_name gts_nil)))
abbrev spFollows : Sp := SpF (fun x : Place × Place => [dt (dP x.1), dt (dP x.2)]) (fun _ => True) fun x => dt (.bool (followsB x.1 x.2))
theorem sc_follows : FnScope ["place", "other", "hour", "row", "column", "later", "other_row", "other_column"] ["place", "other"] (defScope s_follows) := C8.fnScope_by (by decide +kernel)
theorem ok_follows (T : Bt mg) (F : Dfn K mg "follows" s_follows ["place", "other"]) : C8.Cal P w K mg base 1 "follows" spFollows [] := by
  have sc := sc_follows
  refine F.cal sc (SpF.len fun _ => rfl) fun f cdv A outer s H vs Q E hr hsp => ?_
  refine ⟨_, (pss_cons (ps_asg (pv 0) (pg_tup (n := 3) rfl (pgs_cons (pg_name (i := 2) sc.nd rfl (by first | exact Or.inl rfl | exact Or.inr rfl)) (pgs_cons (pg_name (i := 3) sc.nd rfl (by first | exact Or.inl rfl | exact Or.inr rfl)) (pgs_cons (pg_name (i := 4) sc.nd rfl (by first | exact Or.inl rfl | exact Or.inr rfl)) pgs_nil)))))
    (pss_cons (ps_asg (pv 1) (pg_tup (n := 3) rfl (pgs_cons (pg_name (i := 5) sc.nd rfl (by first | exact Or.inl rfl | exact Or.inr rfl)) (pgs_cons (pg_name (i := 6) sc.nd rfl (by first | exact Or.inl rfl | exact Or.inr rfl)) (pgs_cons (pg_name (i := 7) sc.nd rfl (by first | exact Or.inl rfl | exact Or.inr rfl)) pgs_nil)))))
    (pss_one (ps_ret (pe_and (pe_cmpR op_eq (pv 5) (pe_op op_add (pv 2) pe_int) (nomark _)) (pe_one (pe_cmpR op_le (pe_op op_add (pe_callB call_abs (by rfl) T.n_abs bb_abs (pa_cons (pe_op op_sub (pv 6) (pv 3)) pa_nil)) (pe_callB call_abs (by rfl) T.n_abs bb_abs (pa_cons (pe_op op_sub (pv 7) (pv 4)) pa_nil))) pe_int (nomark _)))))))), ?_⟩
  obtain ⟨⟨p, o⟩, B, hp, s0, ha, q⟩ := hsp
  dsimp only at hp ha q
  obtain ⟨v1, v2, rfl, h1, h2⟩ := ita2 ha
  refine s_asg (ev_var h1) s0 fun u B1 H1 g1 p1 => ⟨_, gt_three p1, ?_⟩
  refine s_asg (ev_var (I := dt (dP o)) (Rp.mono (Sd.of g1.base) h2)) g1.sub fun u B2 H2 g2 p2 => ⟨_, gt_three p2, ?_⟩
  refine s_ret (ev_and (c := decide (absI (o.2.1 - p.2.1) + absI (o.2.2 - p.2.2) ≤ 1)) (ev_eqI (ev_var (I := dt (.int o.1)) (.int _)) (ev_i (ev_var (I := dt (.int p.1)) (.int _)) ev_int)) fun _ =>
    ev_ib (ev_i (ev_abs (ev_i (ev_var (I := dt (.int o.2.1)) (.int _)) (ev_var (I := dt (.int p.2.1)) (.int _)))) (ev_abs (ev_i (ev_var (I := dt (.int o.2.2)) (.int _)) (ev_var (I := dt (.int p.2.2)) (.int _))))) ev_int) g2.sub fun v B2 H2 g3 p => q v B2 H2 ((g1.trans g2).trans g3) p
def waterB (rows : List (List (Option Int))) : Bool := rows.any fun r => r.any (·.isSome)
theorem isNon_dO (o : Option Int) : (!isNon (dO o)) = o.isSome := by cases o <;> rfl
theorem any_flat (rows : List (List (Option Int))) : (rows.flatMap fun r => r.map (·.isSome)).any id = waterB rows := by
  unfold waterB
  induction rows with
  | nil => rfl
  | cons r t ih =>
    rw [List.flatMap_cons, List.any_append, ih, List.any_cons, List.any_map]
    rfl
theorem getD_mapf {α : Type} {f : α → PyData} {l : List α} {i : Nat} (h : i < l.length) : (l.map f).getD i .none = f l[i] := by
  simp [List.getD, h]
theorem range_flat {α β : Type} {l : List α} {f : α → List β} {d0 : α} : (List.range l.length).flatMap (fun i => f (l.getD i d0)) = l.flatMap f := by
  induction l with
  | nil => rfl
  | cons d ds ih =>
    rw [List.length_cons, List.range_succ_eq_map, List.flatMap_cons, List.flatMap_map, List.flatMap_cons]
    have e : (fun i => f ((d :: ds).getD (Nat.succ i) d0)) = fun i => f (ds.getD i d0) := by
      funext i
      simp [List.getD]
    rw [e, ih]
    rfl
def Small (rows : List (List (Option Int))) : Prop := rows.length ≤ 100 ∧ ∀ r ∈ rows, r.length ≤ 100
theorem small_flat {rows : List (List (Option Int))} (h : Small rows) (i : Nat) (f : List (Option Int) → List PyData) (hf : ∀ r, (f r).length = r.length) : ((List.range i).flatMap fun k => f (rows.getD k [])).length ≤ i * 100 := by
  induction i with
  | zero => simp
  | succ i ih =>
    rw [List.range_succ, List.flatMap_append, List.length_append]
    have : (f (rows.getD i [])).length ≤ 100 := by
      rw [hf]
      by_cases l : i < rows.length
      · have e : rows.getD i [] = rows[i] := by simp [List.getD, l]
        rw [e]
        exact h.2 _ (List.getElem_mem l)
      · have e : rows.getD i [] = [] := by simp [List.getD, Nat.not_lt.mp l]
        rw [e]
        simp
    simp only [List.flatMap_cons, List.flatMap_nil, List.append_nil]
    omega
abbrev spWater : Sp := SpF (fun x : List (List (Option Int)) => [dt (.list (x.map dRow))]) Small fun x => dt (.bool (waterB x))
theorem sc_has_water : FnScope ["rows", "row", "drag"] ["rows"] (defScope s_has_water) := C8.fnScope_by (by decide +kernel)
theorem ok_has_water (T : Bt mg) (F : Dfn K mg "has_water" s_has_water ["rows"]) : C8.Cal P w K mg base 1 "has_water" spWater [] := by
  have sc := sc_has_water
  refine F.cal sc (SpF.len fun _ => rfl) fun f cdv A outer s H vs Q E hr hsp => ?_
  refine ⟨_, (pss_one (ps_ret (pe_callB (cr_any rfl) (by rfl) T.n_any bb_any (pa_cons (pe_lc2 (own := [("row", 1), ("drag", 2)]) (vs1 := [2]) (wi1 := iList K (tVar 1)) rfl sc.nd (pi_list (pv 0)) (blkOk_by (own := [("row", 1), ("drag", 2)]) (N := ["rows", "row", "drag"]) (sc := defScope s_has_water) (by decide +kernel)) (by decide) (fun _ _ _ _ _ => (pg_name (i := 1) sc.nd rfl (by first | exact Or.inl rfl | exact Or.inr rfl))) (fun _ _ _ _ _ => pts_nil) (fun _ _ _ _ _ => (pi_listK K rfl (pv 1))) (fun _ _ _ _ _ => (pg_name (i := 2) sc.nd rfl (by first | exact Or.inl rfl | exact Or.inr rfl))) (fun _ _ _ _ _ => pts_nil) (fun _ _ _ _ _ => (pe_cmpR op_notN (pv 2) pe_non (nomark _)))) pa_nil)))), ?_⟩
  obtain ⟨x, B, hp, s0, ha, q⟩ := hsp
  dsimp only at hp ha q
  obtain ⟨v1, rfl, h1⟩ := ita1 ha
  have E : EvD (tLc2 (iList K (tVar 0)) (gName 1) tYes (iList K (tVar 1)) (gName 2) tYes (tOp (fun x y H Q => y = .non ∧ Q (.bl (!decide (x = .non))) H) (tVar 2) (tC .non)) [1, 2] [2]) (start ["rows", "row", "drag"] [v1]) B (.list ((x.flatMap fun r => r.map (·.isSome)).map .bool)) := by
    refine (ev_lc2 (fun i => (x.getD i []).map fun o => .bool o.isSome) (wk_list (ev_var h1)) (fun i hi => ?_) fun i y B1 l s p => ?_).is ?_
    · have := small_flat hp i (fun r => r.map fun o => .bool o.isSome) (fun r => by simp)
      rw [List.length_map] at hi
      have := hp.1
      omega
    · rw [List.length_map] at l
      have p : Rp B1 y ((x.map dRow).getD i .none) := p
      rw [getD_mapf l] at p
      have e : x.getD i [] = x[i] := by simp [List.getD, l]
      refine ⟨_, gt_name, rfl, et_yes, (x[i].map dO).length, _, fun j => some (.bool (x[i].getD j none).isSome), wk_list (ev_var (I := dt (dRow x[i])) p), ?_, fun j z B2 l2 s2 p2 => ?_⟩
      · rw [e, List.length_map, range_fm (f := fun o : Option Int => some (PyData.bool o.isSome)) (d0 := none), ← List.filterMap_eq_map]
        rfl
      · rw [List.length_map] at l2
        have p2 : Rp B2 z ((x[i].map dO).getD j .none) := p2
        rw [getD_mapf l2] at p2
        have e2 : x[i].getD j none = x[i][j] := by simp [List.getD, l2]
        refine ⟨_, true, gt_name, rfl, et_yes, (fun z => nomatch z), fun _ => ⟨_, rfl, (ev_notN (ev_var (I := dt (dO x[i][j])) p2)).is ?_⟩⟩
        rw [isNon_dO, e2]
    · rw [List.length_map, range_flat (f := fun r : List (Option Int) => r.map fun o => PyData.bool o.isSome) (d0 := [])]
      congr 1
      rw [List.map_flatMap]
      simp [Function.comp_def]
  refine s_ret ((ev_any E).is (congrArg PyData.bool (any_flat x))) s0 q
end
end Sky

set_option Elab.async false
set_option linter.all false
set_option maxRecDepth 100000
set_option maxHeartbeats 4000000
/-! Small defs of the program, further. -/
namespace Sky
open PySem PySem.Spec PyProof.Rows L2
section
variable {K : PySem.W.Frag} {σ : L2.St} {H : Hp} {B : Hp} {D : Ends} {t : TT} {tu tv : TS} {v : V} {d : PyData}
/-- if t: .. that is not so -/
theorem s_ifN (h : EvT t σ B false) (s : Same B H) (k : ∀ B1 H1, Grow B H B1 H1 → tv D σ H1) : tSeq (tIfS t tu tNext) tv D σ H := s_if1 h s (fun e => nomatch e) fun _ => k
theorem s_ifN1 (h : EvT t σ B false) (s : Same B H) (k : ∀ B1 H1, Grow B H B1 H1 → D.nx σ H1) : tIfS t tu tNext D σ H := s_if h s (fun e => nomatch e) fun _ => k
/-- if t: .. else .. -/
theorem s_ifY (h : EvT t σ B true) (s : Same B H) (k : ∀ B1 H1, Grow B H B1 H1 → tSeq tu tv D σ H1) : tSeq (tIfS t tu tNext) tv D σ H := s_if1 h s (fun _ => k) fun e => nomatch e
/-- i, x = of a pair -/
theorem gt_pair {n : Nat} {i j : Nat} (r : Rp B v (.tuple [.int n, d])) : ∃ w, Rp B w d ∧ Gt (gTup K 2 (gCons (gName i) (gCons (gName j) gNil))) v σ B ((σ.set i (some (.int n))).set j (some w)) := by
  obtain ⟨p, xs, rfl, e, r⟩ := Rp.tup_eq r
  cases r with
  | cons r1 r => cases r with
  | cons r2 r =>
    cases r
    rw [Rp.int_eq r1] at e
    exact ⟨_, r2, gt_tup e rfl (gts_cons gt_name (gts_cons gt_name gts_nil))⟩
end
section
variable {P : Program} {w : World} {K : PySem.W.Frag} {mg : Str → Option Value} {base : Heap} {W : Wd}
theorem isTup_gust (g : List (Option Int)) : isTup (dGust g) = true := rfl
theorem all_true {α : Type} (l : List α) : (l.map fun _ => true).all id = true := by
  induction l with
  | nil => rfl
  | cons a l ih => simpa using ih
theorem num99 (o : Option Int) (h : ok99 o) : (isNon (dO o) || isNum (dO o) 0 99) = true := by
  cases o with
  | none => rfl
  | some i =>
    have h : 0 ≤ i ∧ i ≤ 99 := h
    show (decide (0 ≤ i) && decide (i ≤ 99)) = true
    rw [decide_eq_true h.1, decide_eq_true h.2]
    rfl
theorem lenG (g : List (Option Int)) : lenD (dGust g) = g.length := by
  show (((g.map dO).length : Nat) : Int) = _
  rw [List.length_map]
abbrev spWind : Sp := SpF (fun x : List (Option Int) => [dt (dGust x)]) (fun x => x.length = 5 ∧ ∀ d ∈ x, ok99 d) fun _ => dt (.bool true)
theorem sc_is_wind : FnScope ["value", "toll"] ["value"] (defScope s_is_wind) := C8.fnScope_by (by decide +kernel)
theorem ok_is_wind (T : Bt mg) (Z : Kc K mg W) (cis_number : C8.Cal P w K mg base 1 "is_number" spNumber []) (F : Dfn K mg "is_wind" s_is_wind ["value"]) : C8.Cal P w K mg base 2 "is_wind" spWind [] := by
  have sc := sc_is_wind
  refine F.cal sc (SpF.len fun _ => rfl) fun f cdv A outer s H vs Q E hr hsp => ?_
  refine ⟨_, (pss_cons (ps_if (PW.pt (pw_or (pt_not (pt_val (pe_callB call_isi (by rfl) T.n_isinstance bb_isinstance (pa_cons (pv 0) (pa_cons (pe_bltn (v := .ty "tuple") (by rfl) T.n_tuple bb_tuple rfl) pa_nil))))) (pw_or1 (pt_cmpR op_ne (pe_callB call_len_seq (by rfl) T.n_len bb_len (pa_cons (pv 0) pa_nil)) (pe_callB call_len_seq (by rfl) T.n_len bb_len (pa_cons (pe_glob (v := .ref W.dir) (by rfl) Z.g_DIRECTIONS rfl) pa_nil)) (nomark _))))) (pss_one (ps_ret pe_bl)) pss_nil)
    (pss_one (ps_ret (pe_callB (cr_all rfl) (by rfl) T.n_all bb_all (pa_cons (pe_lc (own := [("toll", 1)]) rfl sc.nd (pi_tup (pv 0)) (blkOk_by (own := [("toll", 1)]) (N := ["value", "toll"]) (sc := defScope s_is_wind) (by decide +kernel)) (fun _ _ _ _ _ => (pg_name (i := 1) sc.nd rfl (by first | exact Or.inl rfl | exact Or.inr rfl))) (fun _ _ _ _ _ => pts_nil) (fun _ _ _ _ _ => (pe_or (pe_cmpR op_isN (pv 1) pe_non (nomark _)) (pe_one (C8.pe_c cis_number hr (by decide) (by rfl) (pa_cons (pv 1) (pa_cons pe_int (pa_cons (pe_glob (v := .int 99) (by rfl) T.g_MOST_TOLL.choose_spec ⟨_, rfl⟩) pa_nil)))))))) pa_nil))))), ?_⟩
  obtain ⟨x, B, hp, s0, ha, q⟩ := hsp
  dsimp only at hp ha q
  obtain ⟨v1, rfl, h1⟩ := ita1 ha
  obtain ⟨hl, ho⟩ := hp
  refine s_ifN ((et_or (b := false) (c := false) ((et_not (et_B (ev_isi kit_tuple (ev_var h1)))).is rfl) fun e => et_test ((ev_tupLen rfl h1 (ev_dir Z)).is ?_))) s0 fun B1 H1 g => ?_
  · rw [lenG, hl]
    rfl
  · have r : Rp B1 v1 (dGust x) := Rp.mono (Sd.of g.base) h1
    refine s_ret ((ev_all (bs := x.map fun _ => true) ((ev_lcL (fun _ => some (.bool true)) (wk_tup (ev_var (I := dt (dGust x)) r)) (by rw [List.length_map]; omega) fun d y B2 hd s p => ?_).is ?_)).is (congrArg PyData.bool (all_true x))) g.sub fun v B2 H2 g2 p => q v B2 H2 (g.trans g2) p
    · obtain ⟨o, h3, rfl⟩ := List.mem_map.mp hd
      refine ⟨_, true, gt_name, rfl, et_yes, (fun z => nomatch z), fun _ => ⟨_, rfl, ?_⟩⟩
      exact (ev_or (ev_isN (ev_var (I := dt (dO o)) p)) fun _ => ev_call (dO o, 0, 99) (ea_cons (ev_var (I := dt (dO o)) p) (ea_cons ev_int (ea_cons ev_int ea_nil))) trivial).is (congrArg PyData.bool (num99 o (ho o h3)))
    · rw [List.map_map, List.filterMap_map, ← List.filterMap_eq_map]
      rfl
abbrev spListed : Sp := SpF (fun x : List PyData × Int × Int => [dt (.list x.1), dt (.int x.2.1), dt (.int x.2.2)]) (fun _ => True) fun x => dt (.bool (decide (x.2.1 ≤ x.1.length) && decide (x.1.length ≤ x.2.2)))
theorem sc_is_listed : FnScope ["value", "least", "most"] ["value", "least", "most"] (defScope s_is_listed) := C8.fnScope_by (by decide +kernel)
theorem ok_is_listed (T : Bt mg) (F : Dfn K mg "is_listed" s_is_listed ["value", "least", "most"]) : C8.Cal P w K mg base 1 "is_listed" spListed [] := by
  have sc := sc_is_listed
  refine F.cal sc (SpF.len fun _ => rfl) fun f cdv A outer s H vs Q E hr hsp => ?_
  refine ⟨_, (pss_one (ps_ret (pe_and (pe_callB call_isiT (by rfl) T.n_isinstance bb_isinstance (pa_cons (pv 0) (pa_cons (pe_tup (pa_cons (pe_bltn (v := .ty "list") (by rfl) T.n_list bb_list rfl) (pa_cons (pe_bltn (v := .ty "tuple") (by rfl) T.n_tuple bb_tuple rfl) pa_nil))) pa_nil))) (pe_one (pe_chain op_le op_le (pv 1) (pe_callB call_len_seq (by rfl) T.n_len bb_len (pa_cons (pv 0) pa_nil)) (pv 2)))))), ?_⟩
  obtain ⟨⟨ds, lo, hi⟩, B, hp, s0, ha, q⟩ := hsp
  dsimp only at hp ha q
  obtain ⟨v1, v2, v3, rfl, h1, h2, h3⟩ := ita3 ha
  exact s_ret (ev_and (b := true) (c := decide (lo ≤ ds.length) && decide (ds.length ≤ hi)) ((ev_isiLT (ev_var h1)).is rfl) fun _ => ev_chain (ev_var h2) (ev_cb (ea1 (ev_var h1)) rc_len) fun _ => ev_var h3) s0 q
theorem getD_row {x : Sea} {j : Nat} (h : j < x.rows.length) : (x.rows.map dRow).getD j .none = dRow x.rows[j] := getD_mapf h
theorem numN (o : Option Int) (h : ok99 o) (e : (!isNon (dO o)) = true) : (!isNum (dO o) 0 99) = false := by
  cases o with
  | none => cases e
  | some i =>
    have h : 0 ≤ i ∧ i ≤ 99 := h
    show (!(decide (0 ≤ i) && decide (i ≤ 99))) = false
    rw [decide_eq_true h.1, decide_eq_true h.2]
    rfl
theorem et_andN {σ : L2.St} {H : Hp} {t u : TT} {b : Bool} (h1 : EvT t σ H b) (h2 : b = true → EvT u σ H false) : EvT (tAnd t u) σ H false := (et_and (c := false) h1 h2).is (by rw [Bool.and_false])
abbrev spRows : Sp := SpF (fun x : Sea => [dt (.list (x.rows.map dRow))]) (fun x => SeaOk x ∧ waterB x.rows = true) fun _ => dt .none
theorem sc_check_rows : FnScope ["rows", "at", "row", "column", "drag"] ["rows"] (defScope s_check_rows) := C8.fnScope_by (by decide +kernel)
theorem ok_check_rows (T : Bt mg) (Z : Kc K mg W) (cis_number : C8.Cal P w K mg base 1 "is_number" spNumber []) (cis_listed : C8.Cal P w K mg base 1 "is_listed" spListed []) (chas_water : C8.Cal P w K mg base 1 "has_water" spWater []) (F : Dfn K mg "check_rows" s_check_rows ["rows"]) : C8.Cal P w K mg base 2 "check_rows" spRows [] := by
  have sc := sc_check_rows
  refine F.cal sc (SpF.len fun _ => rfl) fun f cdv A outer s H vs Q E hr hsp => ?_
  refine ⟨_, (pss_cons (ps_if (pt_not (pt_val (C8.pe_c cis_listed hr (by decide) (by rfl) (pa_cons (pv 0) (pa_cons pe_int (pa_cons (ClX.pe_cval (pe_glob (v := .ref W.cc) (by rfl) Z.g_Chart rfl)) pa_nil)))))) (pss_one ps_never) pss_nil)
    (pss_cons (ps_for PassesOwn.never rfl (pi_enum (by rfl) T.n_enumerate (pa_cons (pv 0) pa_nil)) (pg_tup (n := 2) rfl (pgs_cons (pg_name (i := 1) sc.nd rfl (by first | exact Or.inl rfl | exact Or.inr rfl)) (pgs_cons (pg_name (i := 2) sc.nd rfl (by first | exact Or.inl rfl | exact Or.inr rfl)) pgs_nil)))
      (pss_cons (ps_if (PW.pt (pw_or (pt_not (pt_val (C8.pe_c cis_listed hr (by decide) (by rfl) (pa_cons (pv 2) (pa_cons pe_int (pa_cons (ClX.pe_cval (pe_glob (v := .ref W.cc) (by rfl) Z.g_Chart rfl)) pa_nil)))))) (pw_or1 (pt_cmpR op_ne (pe_callB call_len_seq (by rfl) T.n_len bb_len (pa_cons (pv 2) pa_nil)) (pe_callB call_len_seq (by rfl) T.n_len bb_len (pa_cons (pe_ix ix_list (pv 0) pe_int (fun _ _ => rfl)) pa_nil)) (nomark _))))) (pss_one ps_never) pss_nil)
      (pss_one (ps_for PassesOwn.never rfl (pi_enum (by rfl) T.n_enumerate (pa_cons (pv 2) pa_nil)) (pg_tup (n := 2) rfl (pgs_cons (pg_name (i := 3) sc.nd rfl (by first | exact Or.inl rfl | exact Or.inr rfl)) (pgs_cons (pg_name (i := 4) sc.nd rfl (by first | exact Or.inl rfl | exact Or.inr rfl)) pgs_nil)))
        (pss_one (ps_if (PW.pt (pw_and (pt_cmpR op_notN (pv 4) pe_non (nomark _)) (pw_and1 (pt_not (pt_val (C8.pe_c cis_number hr (by decide) (by rfl) (pa_cons (pv 4) (pa_cons pe_int (pa_cons (pe_glob (v := .int 99) (by rfl) T.g_GREATEST_charts.choose_spec ⟨_, rfl⟩) pa_nil))))))))) (pss_one ps_never) pss_nil))))))
    (pss_one (ps_if (pt_not (pt_val (C8.pe_c chas_water hr (by decide) (by rfl) (pa_cons (pv 0) pa_nil)))) (pss_one ps_never) pss_nil)))), ?_⟩
  obtain ⟨x, B, hp, s0, ha, q⟩ := hsp
  dsimp only at hp ha q
  obtain ⟨v1, rfl, h1⟩ := ita1 ha
  obtain ⟨ok, hw⟩ := hp
  obtain ⟨wd, w1, w3, hwd⟩ := ok.wide
  have n1 := ok.ne
  have n3 := ok.le
  refine s_ifN ((et_not (et_B (ev_call (x.rows.map dRow, 1, 6) (ea_cons (ev_var h1) (ea_cons ev_int (ea_cons (ev_MR Z) ea_nil))) trivial))).is ?_) s0 fun B1 H1 g => ?_
  · dsimp only
    rw [List.length_map, decide_eq_true (by omega : (1 : Int) ≤ x.rows.length), decide_eq_true (by omega : (x.rows.length : Int) ≤ 6)]
    rfl
  · have r1 : Rp B1 v1 (.list (x.rows.map dRow)) := Rp.mono (Sd.of g.base) h1
    refine s_forq (wk_enum (ev_var (I := dt (.list (x.rows.map dRow))) r1)) g.sub fun B2 H2 g2 => ⟨fun i σ B H => (∃ a b c d, σ = [some v1, a, b, c, d]) ∧ Grow B1 H1 B H, ⟨⟨_, _, _, _, rfl⟩, g2⟩, ?_, ?_⟩
    · rintro i y _ B3 H3 B4 H4 l ⟨⟨a, b, c, d, rfl⟩, gg⟩ s2 g4 p
      rw [List.length_map] at l
      have p : Rp B4 y (.tuple [.int i, (x.rows.map dRow).getD i .none]) := p
      rw [getD_row l] at p
      obtain ⟨u, ru, gt⟩ := gt_pair (K := K) (σ := [some v1, a, b, c, d]) (i := 1) (j := 2) p
      refine ⟨_, gt, ?_⟩
      have gA := gg.trans g4
      have r4 : Rp B4 v1 (.list (x.rows.map dRow)) := Rp.mono (Sd.of gA.base) r1
      have hm : x.rows[i] ∈ x.rows := List.getElem_mem l
      have hl := hwd _ hm
      have h0 : (x.rows.map dRow)[0]? = some (dRow (x.rows[0]'(by omega))) := by rw [List.getElem?_map, List.getElem?_eq_getElem (by omega : 0 < x.rows.length)]; rfl
      have hl0 := hwd _ (List.getElem_mem (by omega : 0 < x.rows.length))
      refine s_ifN (et_or (b := false) (c := false) ((et_not (et_B (ev_call (x.rows[i].map dO, 1, 6) (ea_cons (ev_var (I := dt (dRow x.rows[i])) ru) (ea_cons ev_int (ea_cons (ev_MR Z) ea_nil))) trivial))).is ?_) fun e => et_test ((ev_neI (ev_cb (ea1 (ev_var (I := dt (dRow x.rows[i])) ru)) rc_len) (ev_cb (ea1 (ev_op (ev_var (I := dt (.list (x.rows.map dRow))) r4) (ev_int (i := 0)) (rv_ixL (atI_nat (j := 0) h0)))) rc_len)).is ?_)) g4.sub fun B5 H5 g5 => ?_
      · dsimp only
        rw [List.length_map, hl, decide_eq_true (by omega : (1 : Int) ≤ wd), decide_eq_true (by omega : (wd : Int) ≤ 6)]
        rfl
      · rw [List.length_map, List.length_map, hl, hl0, decide_eq_true rfl]
        rfl
      · refine s_for (wk_enum (ev_var (I := dt (dRow x.rows[i])) (Rp.mono (Sd.of g5.base) ru))) g5.sub fun B6 H6 g6 => ⟨fun j σ B H => (∃ c d, σ = [some v1, some (.int i), some u, c, d]) ∧ Grow B5 H5 B H, ⟨⟨_, _, rfl⟩, g6⟩, ?_, ?_⟩
        · rintro j z _ B7 H7 B8 H8 lj ⟨⟨c, d, rfl⟩, gh⟩ s7 g8 pz
          rw [List.length_map] at lj
          have pz : Rp B8 z (.tuple [.int j, (x.rows[i].map dO).getD j .none]) := pz
          rw [getD_mapf lj] at pz
          obtain ⟨t, rt, gt⟩ := gt_pair (K := K) (σ := [some v1, some (.int i), some u, c, d]) (i := 3) (j := 4) pz
          refine ⟨_, gt, ?_⟩
          refine s_ifN1 (et_andN (et_test (ev_notN (ev_var (I := dt (dO x.rows[i][j])) rt))) fun e => (et_not (et_B (ev_call (dO x.rows[i][j], 0, 99) (ea_cons (ev_var (I := dt (dO x.rows[i][j])) rt) (ea_cons ev_int (ea_cons ev_int ea_nil))) trivial))).is (numN _ (ok.drag _ hm _ (List.getElem_mem lj)) e)) g8.sub fun B9 H9 g9 => ?_
          have gz := (gh.trans g8).trans g9
          exact ⟨B9, s7.trans (g8.base.trans g9.base), gz.sub, ⟨_, _, rfl⟩, gz⟩
        · rintro _ B7 H7 ⟨⟨c, d, rfl⟩, gh⟩ s7 s8
          have gz := (gA.trans g5).trans gh
          exact ⟨B7, s2.trans (g4.base.trans (g5.base.trans gh.base)), gz.sub, ⟨_, _, _, _, rfl⟩, gz⟩
    · rintro _ B3 H3 ⟨⟨a, b, c, d, rfl⟩, gg⟩ s2 s3
      have r4 : Rp B3 v1 (.list (x.rows.map dRow)) := Rp.mono (Sd.of gg.base) r1
      refine s_ifN1 ((et_not (et_B (ev_call x.rows (ea1 (ev_var (I := dt (.list (x.rows.map dRow))) r4)) ⟨by omega, fun r hr => by have := hwd r hr; omega⟩))).is ?_) gg.sub fun B9 H9 g9 => ?_
      · rw [hw]
        rfl
      · exact q _ _ _ ((g.trans gg).trans g9) .non
abbrev spWinds : Sp := SpF (fun x : Sea => [dt (.list (x.gusts.map dGust))]) SeaOk fun _ => dt .none
theorem sc_check_winds : FnScope ["winds", "at", "wind"] ["winds"] (defScope s_check_winds) := C8.fnScope_by (by decide +kernel)
theorem ok_check_winds (T : Bt mg) (Z : Kc K mg W) (cis_wind : C8.Cal P w K mg base 2 "is_wind" spWind []) (cis_listed : C8.Cal P w K mg base 1 "is_listed" spListed []) (F : Dfn K mg "check_winds" s_check_winds ["winds"]) : C8.Cal P w K mg base 3 "check_winds" spWinds [] := by
  have sc := sc_check_winds
  refine F.cal sc (SpF.len fun _ => rfl) fun f cdv A outer s H vs Q E hr hsp => ?_
  refine ⟨_, (pss_cons (ps_if (pt_not (pt_val (C8.pe_c cis_listed hr (by decide) (by rfl) (pa_cons (pv 0) (pa_cons pe_int (pa_cons (ClX.pe_cval (pe_glob (v := .ref W.cc) (by rfl) Z.g_Chart rfl)) pa_nil)))))) (pss_one ps_never) pss_nil)
    (pss_one (ps_for PassesOwn.never rfl (pi_enum (by rfl) T.n_enumerate (pa_cons (pv 0) pa_nil)) (pg_tup (n := 2) rfl (pgs_cons (pg_name (i := 1) sc.nd rfl (by first | exact Or.inl rfl | exact Or.inr rfl)) (pgs_cons (pg_name (i := 2) sc.nd rfl (by first | exact Or.inl rfl | exact Or.inr rfl)) pgs_nil)))
      (pss_one (ps_if (pt_not (pt_val (C8.pe_c cis_wind hr (by decide) (by rfl) (pa_cons (pv 2) pa_nil)))) (pss_one ps_never) pss_nil))))), ?_⟩
  obtain ⟨x, B, hp, s0, ha, q⟩ := hsp
  dsimp only at hp ha q
  obtain ⟨v1, rfl, h1⟩ := ita1 ha
  have n3 := hp.gl
  refine s_ifN ((et_not (et_B (ev_call (x.gusts.map dGust, 0, 8) (ea_cons (ev_var h1) (ea_cons ev_int (ea_cons (ev_MH Z) ea_nil))) trivial))).is ?_) s0 fun B1 H1 g => ?_
  · dsimp only
    rw [List.length_map, decide_eq_true (by omega : (0 : Int) ≤ x.gusts.length), decide_eq_true (by omega : (x.gusts.length : Int) ≤ 8)]
    rfl
  · have r1 : Rp B1 v1 (.list (x.gusts.map dGust)) := Rp.mono (Sd.of g.base) h1
    refine s_for (wk_enum (ev_var (I := dt (.list (x.gusts.map dGust))) r1)) g.sub fun B2 H2 g2 => ⟨fun i σ B H => (∃ a b, σ = [some v1, a, b]) ∧ Grow B1 H1 B H, ⟨⟨_, _, rfl⟩, g2⟩, ?_, ?_⟩
    · rintro i y _ B3 H3 B4 H4 l ⟨⟨a, b, rfl⟩, gg⟩ s2 g4 p
      rw [List.length_map] at l
      have p : Rp B4 y (.tuple [.int i, (x.gusts.map dGust).getD i .none]) := p
      rw [getD_mapf l] at p
      obtain ⟨u, ru, gt⟩ := gt_pair (K := K) (σ := [some v1, a, b]) (i := 1) (j := 2) p
      refine ⟨_, gt, ?_⟩
      refine s_ifN1 ((et_not (et_B (ev_call x.gusts[i] (ea1 (ev_var (I := dt (dGust x.gusts[i])) ru)) (hp.gust _ (List.getElem_mem l))))).is rfl) g4.sub fun B5 H5 g5 => ?_
      have gz := (gg.trans g4).trans g5
      exact ⟨B5, s2.trans (g4.base.trans g5.base), gz.sub, ⟨_, _, rfl⟩, gz⟩
    · rintro _ B3 H3 ⟨⟨a, b, rfl⟩, gg⟩ s2 s3
      exact q _ _ _ (g.trans gg) .non
end
end Sky

set_option Elab.async false
set_option linter.all false
set_option maxRecDepth 100000
set_option maxHeartbeats 4000000
/-! Methods, own in, makers by keywords; the chart as an item. -/
namespace Sky
open PySem PySem.Spec PyProof.Rows L2
/-! ### a method as the top leaves it -/
structure DfM (K : PySem.W.Frag) (C : Addr) (m qual : Str) (st : Stmt) (ps : List Str) : Prop where
  cls : Cls K C
  ex : ∃ (f : Addr) (oc : Value) (od : Option Addr) (kV doc pm : Value) (an : Option Addr) (cdv ct : Value) (osl : Array (Option Value)),
    Meth K C m f ∧ K.lookup f = some ⟨oc, od, .func (PySem.W.fnOf m qual (defArgs st) (defBody st) (defScope st) .none kV doc pm an cdv ct), osl⟩ ∧ PySem.W.codeIn K cdv qual = true ∧
    Binds K (PySem.W.fnOf m qual (defArgs st) (defBody st) (defScope st) .none kV doc pm an cdv ct) ps []
section
variable {P : Program} {w : World} {K : PySem.W.Frag} {mg : Str → Option Value} {base : Heap}
theorem DfM.met {C : Addr} {m qual : Str} {st : Stmt} {ps N : List Str} {k : Nat} {sp : Sp} (F : DfM K C m qual st ps) (S : FnScope N ps (defScope st)) (len : ∀ vs H Q E, sp vs H Q E → vs.length = ps.length)
    (hbody : ∀ (f : Addr) (cdv : Value) (A : Around) (outer : List Env) (s : Shared) (H : Hp) (vs : List V) (Q : VK) (E : XK), Room k (A.deeper (envOfC qual (defScope st) s.heap.objs.size f cdv)) → sp vs H Q E →
      ∃ t, PSs (bodyCx P w K mg base N qual st f cdv A outer s H E) (defBody st) t ∧ t { nx := fun _ H' => Q .non H', rt := Q } (start N vs) H) : C8.Met P w K mg base (k + 1) C m sp [] := by
  obtain ⟨f, oc, od, kV, doc, pm, an, cdv, ct, osl, h1, h2, h3, h5⟩ := F.ex
  refine ⟨f, _, ps, [], F.cls, h1, fn_of h2 h3 S len fun A outer s H vs Q E hr hsp => ?_, h5, .nil⟩
  obtain ⟨t, h, q⟩ := hbody f cdv A outer s H vs Q E hr hsp
  exact ⟨t, h.nox, q⟩
/-- an __init__ with keyword-only parameters -/
structure DfI (K : PySem.W.Frag) (mg : Str → Option Value) (x : Str) (C : Addr) (qual : Str) (st : Stmt) (dvs : List V) (kws : List (Str × V)) : Prop where
  cls : Cls K C
  mgC : mg x = some (.ref C)
  ex : ∃ (f : Addr) (fd : FuncData), Mk K C f ∧ FunD K "__init__" qual (defArgs st) (defBody st) (defScope st) dvs kws f fd
/-- a class made by a call with n positional values and the keywords ks -/
structure Mkr (P : Program) (w : World) (K : PySem.W.Frag) (mg : Str → Option Value) (base : Heap) (k : Nat) (x : Str) (C : Addr) (n : Nat) (ks : List Str) (sp : Sp) : Prop where
  ex : ∃ (f : Addr) (fd : FuncData) (ps : List Str) (g : List Value → List Value → List Value), Mk K C f ∧ FnOk P w K mg base C8.CX0 k f fd ps sp ∧ mg x = some (.ref C) ∧ KBn K fd ps (n + 1) ks g (fun vs zs => vs ++ zs)
theorem DfI.mkr {x : Str} {C : Addr} {qual : Str} {st : Stmt} {dvs : List V} {kws : List (Str × V)} {n : Nat} {ks ps N : List Str} {k : Nat} {sp : Sp} (F : DfI K mg x C qual st dvs kws) (S : FnScope N ps (defScope st)) (len : ∀ vs H Q E, sp vs H Q E → vs.length = ps.length)
    (hb : ∀ {f : Addr} {fd : FuncData}, FunD K "__init__" qual (defArgs st) (defBody st) (defScope st) dvs kws f fd → ∃ g : List Value → List Value → List Value, KBn K fd ps (n + 1) ks g (fun vs zs => vs ++ zs))
    (hbody : ∀ (f : Addr) (cdv : Value) (A : Around) (outer : List Env) (s : Shared) (H : Hp) (vs : List V) (Q : VK) (E : XK), Room k (A.deeper (envOfC qual (defScope st) s.heap.objs.size f cdv)) → sp vs H Q E →
      ∃ t, PSs (bodyCx P w K mg base N qual st f cdv A outer s H E) (defBody st) t ∧ t { nx := fun _ H' => Q .non H', rt := Q } (start N vs) H) : Mkr P w K mg base (k + 1) x C n ks sp := by
  obtain ⟨f, fd, M, FD⟩ := F.ex
  obtain ⟨g, kb⟩ := hb FD
  refine ⟨f, fd, ps, g, M, FD.ok S len fun cdv A outer s H vs Q E hr hsp => ?_, F.mgC, kb⟩
  obtain ⟨t, h, q⟩ := hbody f cdv A outer s H vs Q E hr hsp
  exact ⟨t, h.nox, q⟩
end
section
variable {X : Cx} {k j n : Nat} {x : Str} {C : Addr} {sp : Sp} {p pos : Pos} {e : Expr} {es : List Expr} {kws : List Keyword} {t tk : TA} {ks : List Str}
theorem pe_mkK (c : Mkr X.prog X.w X.K X.mg X.base k x C n ks sp) (hr : Room j X.A) (hk : k + 1 ≤ j) (hg : Gl X x) (ha : PA X (e :: es) t) (hkw : PK X kws tk)
    (hall : (backToKw pos (keywordEach kws X.env)).all (·.1.isSome) = true := by rfl) (hks : (backToKw pos (keywordEach kws X.env)).filterMap (·.1) = ks := by rfl) (hdb : (x == ("__debug__" : Str)) = false := by decide)
    (he : starEach (e :: es) X.env = (false, eval e X.env) :: starEach es X.env := by rfl) (hpl : ((backTo pos (starEach (e :: es) X.env)).any (·.1) || (backToKw pos (keywordEach kws X.env)).any (·.1.isNone)) = false := by rfl) :
    PE X (.Call (.Name x p) (e :: es) kws pos) (tMakeK C n ks.length sp (fun vs zs => vs ++ zs) C8.E0 t tk) := by
  obtain ⟨f, fd, ps, g, M, F, hm, b⟩ := c.ex
  exact pe_makeK M F (hr.mono hk) hg hm b C8.pass0 ha hkw hall hks hdb he hpl
/-! ### value in obj, by an own __contains__ -/
def rInOwn (C : Addr) (sp : Sp) : R2 := fun v o H Q => ∃ a dx fs, o = .ref a ∧ H a = some (.ins C dx fs) ∧ sp [o, v] H (fun z H' => ∃ b, z = .bl b ∧ Q (.bl b) H') C8.E0
def rNiOwn (C : Addr) (sp : Sp) : R2 := fun v o H Q => ∃ a dx fs, o = .ref a ∧ H a = some (.ins C dx fs) ∧ sp [o, v] H (fun z H' => ∃ b, z = .bl b ∧ Q (.bl (!b)) H') C8.E0
theorem op_inOwn (c : C8.Met X.prog X.w X.K X.mg X.base k C "__contains__" sp []) (hr : Room j X.A) (hk : k ≤ j) : OpR X (compareOp .In) (rInOwn C sp) := by
  intro pins s σ H v o u1 u2 Q I r1 r2 h
  obtain ⟨a, dx, fs, rfl, ha, q⟩ := h
  obtain ⟨f, fd, ps, ds, hc, hm, F, b, d⟩ := c.ex
  cases r2
  obtain ⟨mA, J, _⟩ := ins_get I.hok ha
  obtain ⟨od, J, _⟩ := J.look
  obtain ⟨m, hF⟩ := I.fr
  have FR := F.raw b d
  refine PySem.W.in_K hF I.ok.mod.kin J hm.at_ hm.fn (thn (wpAny_call (run_fnR (E := C8.E0) (Q := fun z H' => ∃ b, z = V.bl b ∧ Q (.bl b) H') (us := [.ref a, u1]) (vs := [.ref a, v]) FR (hr.mono hk) C8.pass0 I (.cons rfl (.cons r1 .nil)) (by simpa using q))) fun r s' ⟨z, H', I', rz, bb, ez, qz⟩ => ?_)
  subst ez
  obtain rfl : r = Value.bool bb := rz
  exact wpAny_truthy_bool ⟨.bl bb, H', I', rfl, qz⟩
theorem op_niOwn (c : C8.Met X.prog X.w X.K X.mg X.base k C "__contains__" sp []) (hr : Room j X.A) (hk : k ≤ j) : OpR X (compareOp .NotIn) (rNiOwn C sp) := by
  intro pins s σ H v o u1 u2 Q I r1 r2 h
  obtain ⟨a, dx, fs, rfl, ha, q⟩ := h
  obtain ⟨f, fd, ps, ds, hc, hm, F, b, d⟩ := c.ex
  cases r2
  obtain ⟨mA, J, _⟩ := ins_get I.hok ha
  obtain ⟨od, J, _⟩ := J.look
  obtain ⟨m, hF⟩ := I.fr
  have FR := F.raw b d
  refine PySem.W.notIn_K hF I.ok.mod.kin J hm.at_ hm.fn (thn (wpAny_call (run_fnR (E := C8.E0) (Q := fun z H' => ∃ b, z = V.bl b ∧ Q (.bl (!b)) H') (us := [.ref a, u1]) (vs := [.ref a, v]) FR (hr.mono hk) C8.pass0 I (.cons rfl (.cons r1 .nil)) (by simpa using q))) fun r s' ⟨z, H', I', rz, bb, ez, qz⟩ => ?_)
  subst ez
  obtain rfl : r = Value.bool bb := rz
  exact wpAny_truthy_bool ⟨.bl (!bb), H', I', rfl, qz⟩
end

/-! ### what is made -/
/-- an __init__ that lays everything: behind it the instance is known -/
def SpIn {α : Type} (C : Addr) (args : α → List Item) (pre : α → Prop) (res : α → Item) : Sp := fun vs H Q _ => ∃ (x : α) (B H0 : Hp) (o dx : Addr) (ws : List V), pre x ∧ H0 o = none ∧ H0 dx = none ∧ dx ≠ o ∧ H = upd (upd H0 dx (.own o)) o (.ins C dx []) ∧
  Same B H0 ∧ vs = .ref o :: ws ∧ ItA B ws (args x) ∧ ∀ B1 H1, Grow B H0 B1 H1 → (res x).P (.ref o) B1 → Q .non H1
theorem SpIn.len {α : Type} {C : Addr} {args : α → List Item} {pre : α → Prop} {res : α → Item} {n : Nat} (h : ∀ x, (args x).length + 1 = n) : ∀ vs H Q E, SpIn C args pre res vs H Q E → vs.length = n := fun vs H Q E ⟨x, B, _, _, _, ws, _, _, _, _, _, _, e, a, _⟩ => by
  rw [e, List.length_cons, a.length]
  exact h x
section
variable {K : PySem.W.Frag} {σ : L2.St} {H B : Hp} {ta tb : TE} {tr tk : TA} {I J L : Item} {Is Js : List Item} {b : Bool} {C : Addr}
theorem ev_mkK {α : Type} {args : α → List Item} {pre : α → Prop} {res : α → Item} {n m : Nat} {E : XK} (x : α) (h : EvA tr σ H Is) (hk : EvA tk σ H Js) (hx : args x = Is ++ Js) (hn : Is.length = n) (hm : Js.length = m) (hp : pre x) :
    Ev (tMakeK C n m (SpIn C args pre res) (fun vs zs => vs ++ zs) E tr tk) σ H (res x) := fun H1 s Q q =>
  h H1 s _ fun vs B2 H2 g2 p2 => hk.mono g2.base H2 g2.sub _ fun zs B3 H3 g3 p3 => by
    refine ⟨by rw [p2.length, hn], by rw [p3.length, hm], fun o dx h1 h2 h3 => ⟨x, B3, H3, o, dx, vs ++ zs, hp, h1, h2, h3, rfl, g3.sub, rfl, ?_, fun B4 H4 g4 p4 => ⟨rfl, q _ B4 H4 ((g2.trans g3).trans g4) p4⟩⟩⟩
    rw [hx]
    exact (p2.mono g3.base).app p3
theorem rv_in {α : Type} {args : α → List Item} {pre : α → Prop} {res : α → Item} {bb : α → Bool} (x : α) (hr : ∀ x, res x = dt (.bool (bb x))) (hi : ∀ v A, J.P v A → ∃ a dx fs, v = .ref a ∧ A a = some (.ins C dx fs)) (hx : args x = [J, I]) (hp : pre x) :
    RvI (rInOwn C (SpF args pre res)) I J (dt (.bool (bb x))) := fun v o A H s p1 p2 Q q => by
  obtain ⟨a, dx, fs, e1, e2⟩ := hi o A p2
  refine ⟨a, dx, fs, e1, s _ _ e2, x, A, hp, s, ?_, fun z B1 H1 g p => ?_⟩
  · rw [hx]
    exact .cons p2 (.cons p1 .nil)
  · rw [hr] at p
    exact ⟨bb x, Rp.bl_eq p, q _ B1 H1 g (.bl _)⟩
theorem rv_ni {α : Type} {args : α → List Item} {pre : α → Prop} {res : α → Item} {bb : α → Bool} (x : α) (hr : ∀ x, res x = dt (.bool (bb x))) (hi : ∀ v A, J.P v A → ∃ a dx fs, v = .ref a ∧ A a = some (.ins C dx fs)) (hx : args x = [J, I]) (hp : pre x) :
    RvI (rNiOwn C (SpF args pre res)) I J (dt (.bool (!bb x))) := fun v o A H s p1 p2 Q q => by
  obtain ⟨a, dx, fs, e1, e2⟩ := hi o A p2
  refine ⟨a, dx, fs, e1, s _ _ e2, x, A, hp, s, ?_, fun z B1 H1 g p => ?_⟩
  · rw [hx]
    exact .cons p2 (.cons p1 .nil)
  · rw [hr] at p
    exact ⟨bb x, Rp.bl_eq p, q _ B1 H1 g (.bl _)⟩
end

/-! ### the chart -/
def anyI : Item := ⟨fun _ _ => True, fun _ h => h⟩
def kC (c : Cell) : List Key := kI [c.1, c.2]
def kP (p : Place) : List Key := kI [p.1, p.2.1, p.2.2]
theorem kC_inj {c d : Cell} (h : kC c = kC d) : c = d := by
  obtain ⟨a, b⟩ := c
  obtain ⟨a', b'⟩ := d
  simp [kC, kI] at h
  rw [h.1, h.2]
theorem kP_inj {c d : Place} (h : kP c = kP d) : c = d := by
  obtain ⟨a, b, e⟩ := c
  obtain ⟨a', b', e'⟩ := d
  simp [kP, kI] at h
  rw [h.1, h.2.1, h.2.2]
theorem val_some {kvs : List (List Key × V)} {k : List Key} : (valV kvs k).isSome = true ↔ k ∈ kvs.map Prod.fst := by
  induction kvs with
  | nil => simp [valV]
  | cons a l ih =>
    obtain ⟨x, v⟩ := a
    by_cases h : x = k
    · subst h
      simp [valV]
    · have e : valV ((x, v) :: l) k = valV l k := by simp [valV, List.find?, h]
      have h' : ¬ k = x := fun z => h z.symm
      rw [e, ih]
      simp [h']
theorem val_cells {kvs : List (List Key × V)} {cs : List Cell} (h : kvs.map Prod.fst = cs.map kC) (c : Cell) : (valV kvs (kC c)).isSome = decide (c ∈ cs) := by
  by_cases q : c ∈ cs
  · rw [decide_eq_true q, val_some, h]
    exact List.mem_map_of_mem q
  · rw [decide_eq_false q, ← Bool.not_eq_true, val_some, h]
    intro z
    obtain ⟨d, h1, h2⟩ := List.mem_map.mp z
    exact q (kC_inj h2 ▸ h1)
def chFs (s : Sea) (vt v1 v2 : V) (dd : Addr) : List (Str × V) := [("top", vt), ("last", .int s.last), ("held_rows", v1), ("held_winds", v2), ("drags", .ref dd)]
def chI (W : Wd) (s : Sea) : Item := ⟨fun v H => ∃ a dx vt v1 v2 dd kvs, v = .ref a ∧ H a = some (.ins W.cc dx (chFs s vt v1 v2 dd)) ∧ H dd = some (.dT kvs) ∧ kvs.map Prod.fst = (cells s).map kC,
  fun st ⟨a, dx, vt, v1, v2, dd, kvs, e, h1, h2, h3⟩ => ⟨a, dx, vt, v1, v2, dd, kvs, e, st _ _ h1, st _ _ h2, h3⟩⟩
theorem lookup_no {l : List (Str × V)} {ks : List Str} {m : Str} (h : l.map Prod.fst = ks) (hm : m ∉ ks) : l.lookup m = none := by
  rw [List.lookup_eq_none_iff]
  intro p hp
  have : p.1 ≠ m := fun e => hm (by rw [← h, ← e]; exact List.mem_map_of_mem hp)
  simpa using fun e : m = p.1 => this e.symm
theorem chI.ins {W : Wd} {s : Sea} {m : Str} (hm : m ∉ chartFields) : ∀ v A, (chI W s).P v A → ∃ a dx fs, v = .ref a ∧ A a = some (.ins W.cc dx fs) ∧ fs.lookup m = none := fun v A ⟨a, dx, vt, v1, v2, dd, kvs, e, h1, h2, h3⟩ => ⟨a, dx, _, e, h1, lookup_no rfl hm⟩
theorem chI.obj {W : Wd} {s : Sea} : ∀ v A, (chI W s).P v A → ∃ a dx fs, v = .ref a ∧ A a = some (.ins W.cc dx fs) := fun v A ⟨a, dx, vt, v1, v2, dd, kvs, e, h1, h2, h3⟩ => ⟨a, dx, _, e, h1⟩
section
variable {K : PySem.W.Frag} {mg : Str → Option Value} {W : Wd} {σ : L2.St} {H : Hp} {ta : TE} {s : Sea}
theorem ev_chLast (Z : Kc K mg W) (h : Ev ta σ H (chI W s)) : EvD (tFld K ta "last") σ H (.int s.last) := ev_fld h fun v A ⟨a, dx, vt, v1, v2, dd, kvs, e, h1, h2, h3⟩ => ⟨a, _, dx, _, _, e, h1, Z.clsC, Z.noC _ (by decide), rfl, .int _⟩
/-- the drags, whatever stands in them -/
def drI (s : Sea) : Item := exI (fun p : Addr × List (List Key × V) => dtI p.1 p.2) fun p => p.2.map Prod.fst = (cells s).map kC
theorem ev_drags (Z : Kc K mg W) (h : Ev ta σ H (chI W s)) : Ev (tFld K ta "drags") σ H (drI s) := ev_fld h fun v A ⟨a, dx, vt, v1, v2, dd, kvs, e, h1, h2, h3⟩ => ⟨a, _, dx, _, _, e, h1, Z.clsC, Z.noC _ (by decide), rfl, (dd, kvs), h3, rfl, h2⟩
end
/-- an item of a kind, opened where it is read -/
theorem ev_dinC {σ : L2.St} {B : Hp} {ty td : TE} {s : Sea} {c : Cell} (hk : EvD ty σ B (dC c)) (hd : Ev td σ B (drI s)) : EvD (tDIn ty td) σ B (.bool (decide (c ∈ cells s))) := fun H1 st Q q =>
  hk H1 st _ fun y B2 H2 g2 p2 => Ev.mono g2.base hd H2 g2.sub _ fun x B3 H3 g3 p3 => by
    obtain ⟨⟨a, kvs⟩, hks, rfl, e⟩ := p3
    obtain ⟨p, rfl, e2⟩ := Rp.key (is := [c.1, c.2]) p2
    have hv := val_cells hks c
    refine ⟨a, _, rfl, DGet.t (g3.sub _ _ e) (g3.top _ _ (g2.sub _ _ e2)), ?_⟩
    rw [show valV kvs (kI [c.1, c.2]) = valV kvs (kC c) from rfl, hv]
    exact q _ B3 H3 (g2.trans g3) (.bl _)
theorem ev_dnotinC {σ : L2.St} {B : Hp} {ty td : TE} {s : Sea} {c : Cell} (hk : EvD ty σ B (dC c)) (hd : Ev td σ B (drI s)) : EvD (tDNotIn ty td) σ B (.bool (!decide (c ∈ cells s))) := fun H1 st Q q =>
  hk H1 st _ fun y B2 H2 g2 p2 => Ev.mono g2.base hd H2 g2.sub _ fun x B3 H3 g3 p3 => by
    obtain ⟨⟨a, kvs⟩, hks, rfl, e⟩ := p3
    obtain ⟨p, rfl, e2⟩ := Rp.key (is := [c.1, c.2]) p2
    have hv := val_cells hks c
    refine ⟨a, _, rfl, DGet.t (g3.sub _ _ e) (g3.top _ _ (g2.sub _ _ e2)), ?_⟩
    rw [show valV kvs (kI [c.1, c.2]) = valV kvs (kC c) from rfl, hv]
    exact q _ B3 H3 (g2.trans g3) (.bl _)
theorem ev_dgetC {σ : L2.St} {B : Hp} {ty td : TE} {s : Sea} {c : Cell} (hk : EvD ty σ B (dC c)) (hd : Ev td σ B (drI s)) (hc : c ∈ cells s) : Ev (tDGet td ty) σ B anyI := fun H1 st Q q =>
  hd H1 st _ fun x B2 H2 g2 p2 => Ev.mono g2.base hk H2 g2.sub _ fun y B3 H3 g3 p3 => by
    obtain ⟨⟨a, kvs⟩, hks, rfl, e⟩ := p2
    obtain ⟨p, rfl, e2⟩ := Rp.key (is := [c.1, c.2]) p3
    have hv := val_cells hks c
    rw [decide_eq_true hc] at hv
    obtain ⟨v, hv⟩ := Option.isSome_iff_exists.mp hv
    have z := DGet.t (k := kI [c.1, c.2]) (g3.top _ _ (g2.sub _ _ e)) (g3.sub _ _ e2)
    rw [show valV kvs (kI [c.1, c.2]) = valV kvs (kC c) from rfl, hv] at z
    exact ⟨a, v, rfl, z, q _ B3 H3 (g2.trans g3) True.intro⟩
end Sky

set_option Elab.async false
set_option linter.all false
set_option maxRecDepth 100000
set_option maxHeartbeats 4000000
/-! The chart's methods. -/
namespace Sky
open PySem PySem.Spec PyProof.Rows L2
/-! ### cells and spots -/
theorem mem_rowCells {j : Nat} {r : List (Option Int)} {c : Cell} : c ∈ rowCells j r ↔ c.1 = j ∧ ∃ k : Nat, c.2 = k ∧ k < r.length ∧ (r.getD k none).isSome = true := by
  unfold rowCells
  rw [List.mem_filterMap]
  constructor
  · rintro ⟨k, hk, h⟩
    split at h
    · rename_i hs
      cases h
      exact ⟨rfl, k, rfl, List.mem_range.mp hk, hs⟩
    · cases h
  · rintro ⟨h1, k, h2, h3, h4⟩
    refine ⟨k, List.mem_range.mpr h3, ?_⟩
    rw [if_pos h4, ← h1, ← h2]
theorem mem_cells {s : Sea} {c : Cell} : c ∈ cells s ↔ ∃ j k : Nat, c = ((j : Int), (k : Int)) ∧ j < s.rows.length ∧ k < (s.rows.getD j []).length ∧ ((s.rows.getD j []).getD k none).isSome = true := by
  unfold cells
  rw [List.mem_flatMap]
  constructor
  · rintro ⟨j, hj, h⟩
    obtain ⟨h1, k, h2, h3, h4⟩ := mem_rowCells.mp h
    exact ⟨j, k, Prod.ext h1 h2, List.mem_range.mp hj, h3, h4⟩
  · rintro ⟨j, k, rfl, h1, h2, h3⟩
    exact ⟨j, List.mem_range.mpr h1, mem_rowCells.mpr ⟨rfl, k, rfl, h2, h3⟩⟩
theorem getD_mem {α : Type} {l : List α} {i : Nat} {d : α} (h : i < l.length) : l.getD i d ∈ l := by
  have e : l.getD i d = l[i] := by simp [List.getD, h]
  rw [e]
  exact List.getElem_mem h
theorem cell_range {s : Sea} (ok : SeaOk s) {c : Cell} (h : c ∈ cells s) : 0 ≤ c.1 ∧ c.1 ≤ 5 ∧ 0 ≤ c.2 ∧ c.2 ≤ 5 := by
  obtain ⟨j, k, rfl, h1, h2, _⟩ := mem_cells.mp h
  obtain ⟨w, w1, w3, hw⟩ := ok.wide
  have := hw _ (getD_mem (d := []) h1)
  have := ok.le
  dsimp only
  omega
theorem mem_spots {s : Sea} {p : Place} : p ∈ spots s ↔ 0 ≤ p.1 ∧ p.1 ≤ s.last ∧ p.2 ∈ cells s := by
  unfold spots Sea.last
  rw [List.mem_flatMap]
  constructor
  · rintro ⟨h, hh, hp⟩
    obtain ⟨c, hc, rfl⟩ := List.mem_map.mp hp
    have := List.mem_range.mp hh
    dsimp only
    exact ⟨by omega, by omega, hc⟩
  · rintro ⟨h1, h2, h3⟩
    obtain ⟨a, b⟩ := p
    dsimp only at h1 h2 h3
    refine ⟨a.toNat, List.mem_range.mpr (by omega), List.mem_map.mpr ⟨b, h3, ?_⟩⟩
    have e : ((a.toNat : Nat) : Int) = a := by omega
    rw [e]
theorem isCell_dC {s : Sea} (ok : SeaOk s) {c : Cell} (h : c ∈ cells s) : isCellD (dC c) = true := by
  obtain ⟨h1, h2, h3, h4⟩ := cell_range ok h
  show ((decide (0 ≤ c.1) && decide (c.1 ≤ 5)) && (decide (0 ≤ c.2) && decide (c.2 ≤ 5))) = true
  simp [h1, h2, h3, h4]
/-! ### FORWARD walked -/
def fwA (W : Wd) (i : Nat) : Addr := [W.f0, W.f1, W.f2, W.f3, W.f4].getD i 0
def fwT (i : Nat) : Int × Int × Int := [(1, -1, 0), (4, 0, -1), (0, 0, 0), (2, 0, 1), (3, 1, 0)].getD i (0, 0, 0)
section
variable {K : PySem.W.Frag} {mg : Str → Option Value} {W : Wd} {σ : L2.St} {H B : Hp}
theorem fw_at (Z : Kc K mg W) {i : Nat} (h : i < 5) (H : Hp) : SqT K H (fwA W i) [.int (fwT i).1, .int (fwT i).2.1, .int (fwT i).2.2] := by
  match i, h with
  | 0, _ => exact Z.fw0 H
  | 1, _ => exact Z.fw1 H
  | 2, _ => exact Z.fw2 H
  | 3, _ => exact Z.fw3 H
  | 4, _ => exact Z.fw4 H
theorem wk_fwd (Z : Kc K mg W) : Wk (iTup K (tC (.ref W.fwd))) σ H 5 (fun i => xv (.ref (fwA W i))) := fun H1 s R r => by
  refine ⟨W.fwd, rfl, ⟨_, Z.fwd H1⟩, r _ H H1 (Grow.refl s) ⟨fun i H' s' l => ?_, fun i H' x H'' s' l y => ?_, fun H' s' => ⟨_, Z.fwd H', Nat.le_refl _⟩⟩⟩
  · exact ⟨_, _, Z.fwd _, List.getElem?_eq_getElem l⟩
  · obtain ⟨e1, e2⟩ := y
    subst e1
    have e := e2 _ (Z.fwd _)
    refine ⟨H, Grow.refl s', ?_⟩
    match i, l with
    | 0, _ => exact (Option.some.inj e).symm
    | 1, _ => exact (Option.some.inj e).symm
    | 2, _ => exact (Option.some.inj e).symm
    | 3, _ => exact (Option.some.inj e).symm
    | 4, _ => exact (Option.some.inj e).symm
theorem gt_fwd (Z : Kc K mg W) {i : Nat} (h : i < 5) {a b c : Nat} : Gt (gTup K 3 (gCons (gName a) (gCons (gName b) (gCons (gName c) gNil)))) (.ref (fwA W i)) σ B (((σ.set a (some (.int (fwT i).1))).set b (some (.int (fwT i).2.1))).set c (some (.int (fwT i).2.2))) :=
  fun H _ Q q => ⟨_, _, rfl, fw_at Z h H, rfl, gts_cons (B := H) gt_name (gts_cons gt_name (gts_cons gt_name gts_nil)) H (Same.refl H) Q q⟩
end
def fC (x : Sea) : PyData → Option PyData
  | .tuple [.int a, .int b] => if (a, b) ∈ cells x then some (dC (a, b)) else none
  | _ => none
theorem fC_eq {x : Sea} (e : Cell) : fC x (dC e) = if e ∈ cells x then some (dC e) else none := rfl
theorem fm_filter {x : Sea} (l : List Cell) : (l.map dC).filterMap (fC x) = (l.filter fun d => decide (d ∈ cells x)).map dC := by
  induction l with
  | nil => rfl
  | cons e l ih =>
    rw [List.map_cons, List.filterMap_cons, ih, fC_eq]
    by_cases h : e ∈ cells x
    · rw [if_pos h, List.filter_cons_of_pos (by simpa using h)]
      rfl
    · rw [if_neg h, List.filter_cons_of_neg (by simpa using h)]
section
variable {P : Program} {w : World} {K : PySem.W.Frag} {mg : Str → Option Value} {base : Heap} {W : Wd}
abbrev spCheckWater (W : Wd) : Sp := SpF (fun x : Sea × Cell => [chI W x.1, dt (dC x.2)]) (fun x => SeaOk x.1 ∧ x.2 ∈ cells x.1) fun _ => dt .none
theorem sc_Chart_check_water : FnScope ["self", "cell"] ["self", "cell"] (defScope s_Chart_check_water) := C8.fnScope_by (by decide +kernel)
theorem ok_Chart_check_water (T : Bt mg) (Z : Kc K mg W) (cis_cell : C8.Cal P w K mg base 2 "is_cell" spCell []) (F : DfM K W.cc "check_water" "Chart.check_water" s_Chart_check_water ["self", "cell"]) : C8.Met P w K mg base 3 W.cc "check_water" (spCheckWater W) [] := by
  have sc := sc_Chart_check_water
  refine F.met sc (SpF.len fun _ => rfl) fun f cdv A outer s H vs Q E hr hsp => ?_
  refine ⟨_, (pss_one (ps_if (PW.pt (pw_or (pt_not (pt_val (C8.pe_c cis_cell hr (by decide) (by rfl) (pa_cons (pv 1) pa_nil)))) (pw_or1 (pt_cmp (pc_dnotin (hu_of hr) (pv 1) (pe_fld (pv 0) rfl)) rfl)))) (pss_one ps_never) pss_nil)), ?_⟩
  obtain ⟨⟨x, c⟩, B, hp, s0, ha, q⟩ := hsp
  dsimp only at hp ha q
  obtain ⟨v1, v2, rfl, h1, h2⟩ := ita2 ha
  refine s_ifN1 (et_or (b := false) (c := false) ((et_not (et_B (ev_call (dC c) (ea1 (ev_var h2)) trivial))).is ?_) fun _ => (et_B (ev_dnotinC (ev_var h2) (ev_drags Z (ev_var h1)))).is ?_) s0 fun B1 H1 g => q _ _ _ g .non
  · rw [isCell_dC hp.1 hp.2]
    rfl
  · rw [decide_eq_true hp.2]
    rfl
abbrev spDrag (W : Wd) : Sp := SpF (fun x : Sea × Cell => [chI W x.1, dt (dC x.2)]) (fun x => SeaOk x.1 ∧ x.2 ∈ cells x.1) fun _ => anyI
theorem sc_Chart_drag : FnScope ["self", "cell"] ["self", "cell"] (defScope s_Chart_drag) := C8.fnScope_by (by decide +kernel)
theorem ok_Chart_drag (T : Bt mg) (Z : Kc K mg W) (mcheck_water : C8.Met P w K mg base 3 W.cc "check_water" (spCheckWater W) []) (F : DfM K W.cc "drag" "Chart.drag" s_Chart_drag ["self", "cell"]) : C8.Met P w K mg base 4 W.cc "drag" (spDrag W) [] := by
  have sc := sc_Chart_drag
  refine F.met sc (SpF.len fun _ => rfl) fun f cdv A outer s H vs Q E hr hsp => ?_
  refine ⟨_, (pss_cons (ps_expr (C8.pe_mt mcheck_water hr (by decide) (pv 0) (pa_cons (pv 1) pa_nil)))
    (pss_one (ps_ret (pe_dget (hu_of hr) (pe_fld (pv 0) rfl) (pv 1) (fun _ _ => rfl))))), ?_⟩
  obtain ⟨⟨x, c⟩, B, hp, s0, ha, q⟩ := hsp
  dsimp only at hp ha q
  obtain ⟨v1, v2, rfl, h1, h2⟩ := ita2 ha
  refine s_drop (ev_meth (x, c) (ev_var h1) (chI.ins (by decide)) (ea1 (ev_var h2)) rfl hp) s0 fun v B1 H1 g p => ?_
  exact s_ret (ev_dgetC (c := c) (ev_var (I := dt (dC c)) (Rp.mono (Sd.of g.base) h2)) (ev_drags Z (ev_var ((chI W x).mono g.base h1))) hp.2) g.sub fun v B2 H2 g2 p => q v B2 H2 (g.trans g2) p
def around (c : Cell) : List Cell := [(c.1 + -1, c.2 + 0), (c.1 + 0, c.2 + -1), (c.1 + 0, c.2 + 1), (c.1 + 1, c.2 + 0)]
def nbrs (s : Sea) (c : Cell) : List Cell := (around c).filter fun d => decide (d ∈ cells s)
def inCh (s : Sea) : PyData → Bool
  | .tuple [.int a, .int b, .int c] => decide ((a, b, c) ∈ spots s)
  | _ => false
abbrev spContains (W : Wd) : Sp := SpF (fun x : Sea × PyData => [chI W x.1, dt x.2]) (fun x => SeaOk x.1) fun x => dt (.bool (inCh x.1 x.2))
theorem place_of {d : PyData} (h : isPlaceD d = true) : ∃ a b c : Int, d = .tuple [.int a, .int b, .int c] ∧ 0 ≤ a := by
  unfold isPlaceD at h
  split at h
  · rename_i x y z
    rw [Bool.and_eq_true, Bool.and_eq_true] at h
    obtain ⟨h1, h2, h3⟩ := h
    cases x <;> first | cases h1 | skip
    cases y <;> first | cases h2 | skip
    cases z <;> first | cases h3 | skip
    rename_i a b c
    refine ⟨a, b, c, rfl, ?_⟩
    have h1 : (decide (0 ≤ a) && decide (a ≤ 8)) = true := h1
    rw [Bool.and_eq_true] at h1
    exact of_decide_eq_true h1.1
  · cases h
def inB (s : Sea) : PyData → Bool
  | .tuple [.int a, .int b, .int c] => decide (a ≤ s.last) && decide ((b, c) ∈ cells s)
  | _ => false
theorem inCh_eq {s : Sea} (ok : SeaOk s) (d : PyData) : inCh s d = (isPlaceD d && inB s d) := by
  unfold inCh inB
  split
  · rename_i a b c
    have hl : s.last ≤ 3 := by
      have := ok.gl
      unfold Sea.last
      omega
    show _ = (((decide (0 ≤ a) && decide (a ≤ 8)) && ((decide (0 ≤ b) && decide (b ≤ 5)) && (decide (0 ≤ c) && decide (c ≤ 5)))) && (decide (a ≤ s.last) && decide ((b, c) ∈ cells s)))
    by_cases h : (a, b, c) ∈ spots s
    · obtain ⟨h1, h2, h3⟩ := mem_spots.mp h
      dsimp only at h1 h2 h3
      obtain ⟨h4, h5, h6, h7⟩ := cell_range ok h3
      dsimp only at h4 h5 h6 h7
      have h8 : a ≤ 8 := by omega
      simp [h, h1, h2, h3, h4, h5, h6, h7, h8]
    · rw [decide_eq_false h]
      by_cases h1 : 0 ≤ a
      · by_cases h2 : a ≤ s.last
        · have h3 : ¬ (b, c) ∈ cells s := fun z => h (mem_spots.mpr ⟨h1, h2, z⟩)
          simp [h3]
        · simp [h2]
      · simp [h1]
  · rw [Bool.and_false]
theorem sc_Chart___contains__ : FnScope ["self", "value"] ["self", "value"] (defScope s_Chart___contains__) := C8.fnScope_by (by decide +kernel)
theorem ok_Chart___contains__ (T : Bt mg) (Z : Kc K mg W) (cis_place : C8.Cal P w K mg base 3 "is_place" spPlace []) (F : DfM K W.cc "__contains__" "Chart.__contains__" s_Chart___contains__ ["self", "value"]) : C8.Met P w K mg base 4 W.cc "__contains__" (spContains W) [] := by
  have sc := sc_Chart___contains__
  refine F.met sc (SpF.len fun _ => rfl) fun f cdv A outer s H vs Q E hr hsp => ?_
  refine ⟨_, (pss_one (ps_ret (pe_and (C8.pe_c cis_place hr (by decide) (by rfl) (pa_cons (pv 1) pa_nil)) (pe_and (pe_cmpR op_le (pe_ix ix_tup (pv 1) pe_int (fun _ _ => rfl)) (pe_fld (pv 0) rfl) (nomark _)) (pe_one (pe_cmp (pc_din (hu_of hr) (pe_slice sl_tup (pv 1) (po_some pe_int) po_none) (pe_fld (pv 0) rfl)) rfl)))))), ?_⟩
  obtain ⟨⟨x, d⟩, B, hp, s0, ha, q⟩ := hsp
  dsimp only at hp ha q
  obtain ⟨v1, v2, rfl, h1, h2⟩ := ita2 ha
  refine s_ret ((ev_and (c := inB x d) (ev_call d (ea1 (ev_var h2)) trivial) fun e => ?_).is (congrArg PyData.bool (inCh_eq hp d).symm)) s0 q
  obtain ⟨a, b, c, rfl, _⟩ := place_of e
  exact ev_and (ev_ib (ev_op (ev_var h2) ev_int (rv_ixT rfl)) (ev_chLast Z (ev_var h1))) fun _ =>
    ev_dinC (c := (b, c)) (ev_slT (ev_var h2) (eo_some (ev_int (i := 1))) eo_none fun h => absurd (show HT.sIx 3 0 (some 1) = 0 from h.1) (by decide)) (ev_drags Z (ev_var h1))
abbrev spNeighbours (W : Wd) : Sp := SpF (fun x : Sea × Cell => [chI W x.1, dt (dC x.2)]) (fun x => SeaOk x.1 ∧ x.2 ∈ cells x.1) fun x => dt (dCs (nbrs x.1 x.2))
theorem sc_Chart_neighbours : FnScope ["self", "cell", "around", "at", "down", "right", "other"] ["self", "cell"] (defScope s_Chart_neighbours) := C8.fnScope_by (by decide +kernel)
theorem ok_Chart_neighbours (T : Bt mg) (Z : Kc K mg W) (mcheck_water : C8.Met P w K mg base 3 W.cc "check_water" (spCheckWater W) []) (F : DfM K W.cc "neighbours" "Chart.neighbours" s_Chart_neighbours ["self", "cell"]) : C8.Met P w K mg base 4 W.cc "neighbours" (spNeighbours W) [] := by
  have sc := sc_Chart_neighbours
  refine F.met sc (SpF.len fun _ => rfl) fun f cdv A outer s H vs Q E hr hsp => ?_
  refine ⟨_, (pss_cons (ps_expr (C8.pe_mt mcheck_water hr (by decide) (pv 0) (pa_cons (pv 1) pa_nil)))
    (pss_cons (ps_setLc (i := 2) (own := [("at", 3), ("down", 4), ("right", 5)]) rfl sc.nd rfl rfl (sw_true rfl rfl rfl (by decide +kernel)) (pi_tup (pe_glob (v := .ref W.fwd) (by rfl) Z.g_FORWARD rfl)) (blkOk_by (own := [("at", 3), ("down", 4), ("right", 5)]) (N := ["self", "cell", "around", "at", "down", "right", "other"]) (sc := defScope s_Chart_neighbours) (by decide +kernel)) (fun _ _ _ _ _ => (pg_tupK (n := 3) K rfl rfl (pgs_cons (pg_name (i := 3) sc.nd rfl (by first | exact Or.inl rfl | exact Or.inr rfl)) (pgs_cons (pg_name (i := 4) sc.nd rfl (by first | exact Or.inl rfl | exact Or.inr rfl)) (pgs_cons (pg_name (i := 5) sc.nd rfl (by first | exact Or.inl rfl | exact Or.inr rfl)) pgs_nil))) rfl rfl)) (fun _ _ _ _ _ => (pts_one (pt_cmpR op_ne (pv 3) pe_int (nomark _)))) (fun _ _ _ _ _ => (pe_tup (pa_cons (pe_op op_add (pe_ix (ix_tupK K rfl) (pv 1) pe_int (fun _ _ => rfl)) (pv 4)) (pa_cons (pe_op op_add (pe_ix (ix_tupK K rfl) (pv 1) pe_int (fun _ _ => rfl)) (pv 5)) pa_nil)))))
    (pss_one (ps_ret (pe_lc (own := [("other", 6)]) rfl sc.nd (pi_list (pv 2)) (blkOk_by (own := [("other", 6)]) (N := ["self", "cell", "around", "at", "down", "right", "other"]) (sc := defScope s_Chart_neighbours) (by decide +kernel)) (fun _ _ _ _ _ => (pg_name (i := 6) sc.nd rfl (by first | exact Or.inl rfl | exact Or.inr rfl))) (fun _ _ _ _ _ => (pts_one (pt_cmp (pc_din (hu_of hr) (pv 6) (pe_fldK K rfl (pv 0) rfl)) rfl))) (fun _ _ _ _ _ => (pv 6))))))), ?_⟩
  obtain ⟨⟨x, c⟩, B, hp, s0, ha, q⟩ := hsp
  dsimp only at hp ha q
  obtain ⟨v1, v2, rfl, h1, h2⟩ := ita2 ha
  refine s_drop (ev_meth (x, c) (ev_var h1) (chI.ins (by decide)) (ea1 (ev_var h2)) rfl hp) s0 fun v B1 H1 g p => ?_
  have r1 := (chI W x).mono g.base h1
  have r2 : Rp B1 v2 (dC c) := Rp.mono (Sd.of g.base) h2
  refine s_set (ev_lc (fun i => if (fwT i).1 = 0 then none else some (dC (c.1 + (fwT i).2.1, c.2 + (fwT i).2.2))) (wk_fwd Z) (by decide) fun i y B2 l s2 p2 => ?_) g.sub fun v B2 H2 g2 p2 => ?_
  · have p2 : y = .ref (fwA W i) := p2
    subst p2
    have r3 : Rp B2 v2 (dC c) := Rp.mono (Sd.of s2) r2
    refine ⟨_, !decide ((fwT i).1 = 0), gt_fwd Z l, rfl, et_test (ev_neI (ev_var (I := dt (.int (fwT i).1)) (.int _)) (ev_int (i := 0))), fun e => ?_, fun e => ?_⟩
    · rw [if_pos (by simpa using e)]
    · rw [if_neg (by simpa using e)]
      refine ⟨_, rfl, ev_tup (ds := [.int (c.1 + (fwT i).2.1), .int (c.2 + (fwT i).2.2)]) (ea_cons (ev_i (ev_op (ev_var (I := dt (dC c)) r3) (ev_int (i := 0)) (rv_ixT rfl)) (ev_var (I := dt (.int (fwT i).2.1)) (.int _)))
        (ea_cons (ev_i (ev_op (ev_var (I := dt (dC c)) r3) (ev_int (i := 1)) (rv_ixT rfl)) (ev_var (I := dt (.int (fwT i).2.2)) (.int _))) ea_nil)) (by show 2 ≤ 100000; decide)⟩
  · have p2 : Rp B2 v (.list ((around c).map dC)) := p2
    have g3 := g.trans g2
    refine s_ret ((ev_lcL (fC x) (wk_list (ev_var (I := dt (.list ((around c).map dC))) p2)) (by show 4 ≤ 100000; decide) fun d y B3 hd s3 p3 => ?_).is ?_) g3.sub fun v B3 H3 g4 p => q v B3 H3 (g3.trans g4) p
    · obtain ⟨e, he, rfl⟩ := List.mem_map.mp hd
      have r4 := (chI W x).mono (g2.base.trans s3) r1
      refine ⟨_, decide (e ∈ cells x), gt_name, rfl, et_B (ev_dinC (c := e) (ev_var (I := dt (dC e)) p3) (ev_drags Z (ev_var r4))), fun z => ?_, fun z => ?_⟩
      · exact if_neg (of_decide_eq_false z)
      · exact ⟨dC e, if_pos (of_decide_eq_true z), ev_var (I := dt (dC e)) p3⟩
    · exact congrArg PyData.list (fm_filter (around c))
end
end Sky

set_option Elab.async false
set_option linter.all false
set_option maxRecDepth 100000
set_option maxHeartbeats 4000000
/-! Chart.__init__. -/
namespace Sky
open PySem PySem.Spec PyProof.Rows L2
/-- an instance in the making: owned -/
structure Own1 (C : Addr) (B H0 : Hp) (o dx : Addr) (fs : List (Str × V)) (Bk Hk : Hp) : Prop where
  g : Grow B H0 Bk Hk
  n1 : H0 o = none
  n2 : H0 dx = none
  ne : dx ≠ o
  bo : Bk o = none
  ho : Hk o = some (.ins C dx fs)
  bd : Bk dx = none
  hd : Hk dx = some (.own o)
theorem Own1.start {C : Addr} {B H0 : Hp} {o dx : Addr} (s : Same B H0) (n1 : H0 o = none) (n2 : H0 dx = none) (ne : dx ≠ o) : Own1 C B H0 o dx [] B (upd (upd H0 dx (.own o)) o (.ins C dx [])) :=
  ⟨((Grow.refl s).put n2 (s.free n2)).put n1 (s.free n1), n1, n2, ne, s.free n1, upd_same, s.free n2, by rw [upd_ne ne, upd_same]⟩
section
variable {C : Addr} {B H0 Bk Hk B1 H1 : Hp} {o dx : Addr} {fs : List (Str × V)}
theorem Own1.step (h : Own1 C B H0 o dx fs Bk Hk) (g : Grow Bk Hk B1 H1) : Own1 C B H0 o dx fs B1 H1 :=
  ⟨h.g.trans g, h.n1, h.n2, h.ne, (g.kept h.bo h.ho).1, (g.kept h.bo h.ho).2, (g.kept h.bd h.hd).1, (g.kept h.bd h.hd).2⟩
theorem Own1.set (h : Own1 C B H0 o dx fs Bk Hk) (f : Str) (v : V) : Own1 C B H0 o dx (putF f v fs) Bk (upd Hk o (.ins C dx (putF f v fs))) :=
  ⟨h.g.put h.n1 h.bo, h.n1, h.n2, h.ne, h.bo, upd_same, h.bd, by rw [upd_ne h.ne]; exact h.hd⟩
theorem Own1.done (h : Own1 C B H0 o dx fs Bk Hk) : Grow B H0 (upd (upd Bk dx (.own o)) o (.ins C dx fs)) Hk :=
  (h.g.commit h.n2 h.bd h.hd).commit h.n1 (by rw [upd_ne h.ne.symm]; exact h.bo) h.ho
theorem Own1.same (h : Own1 C B H0 o dx fs Bk Hk) : Same Bk (upd (upd Bk dx (.own o)) o (.ins C dx fs)) := fun b u e => by
  rw [upd_ne (ne_of_none e h.bo), upd_ne (ne_of_none e h.bd)]
  exact e
/-- a new owned thing beside it -/
theorem Own1.put (h : Own1 C B H0 o dx fs Bk Hk) {a : Addr} {u : HO} (n : Hk a = none) : Own1 C B H0 o dx fs Bk (upd Hk a u) :=
  ⟨h.g.put (h.g.top.free n) (h.g.sub.free n), h.n1, h.n2, h.ne, h.bo, by rw [upd_ne (ne_of_none h.ho n)]; exact h.ho, h.bd, by rw [upd_ne (ne_of_none h.hd n)]; exact h.hd⟩
/-- o.f = e -/
theorem s_fldW {K : PySem.W.Frag} {σ : L2.St} {D : Ends} {tu : TS} {tv : TE} {I : Item} {f : Str} {i : Nat} (w : Own1 C B H0 o dx fs Bk Hk) (hv : Ev tv σ Bk I) (c : Cls K C) (n : NoAttr K C f) (hl : fs.length < 1000)
    (k : ∀ v B1 H1, Grow Bk Hk B1 H1 → I.P v B1 → Own1 C B H0 o dx (putF f v fs) B1 (upd H1 o (.ins C dx (putF f v fs))) → tu D σ (upd H1 o (.ins C dx (putF f v fs)))) (hs : σ[i]? = some (some (.ref o)) := by rfl) : tSeq (sFld K (tVar i) tv f) tu D σ Hk :=
  s_fldO hv w.g.sub hs w.bo w.ho c n hl fun v B1 H1 g p _ _ => k v B1 H1 g p ((w.step g).set f v)
end
theorem putK_new {kvs : List (List Key × V)} {k : List Key} {v : V} (h : k ∉ kvs.map Prod.fst) : putK kvs k v = kvs ++ [(k, v)] := by
  unfold putK
  rw [if_neg]
  intro z
  rw [List.any_eq_true] at z
  obtain ⟨p, hp, e⟩ := z
  exact h (by rw [← of_decide_eq_true e]; exact List.mem_map_of_mem hp)
/-- the cells of the first i rows; of the first k items of a row -/
def preA (s : Sea) (i : Nat) : List Cell := (List.range i).flatMap fun j => rowCells j (s.rows.getD j [])
def preR (i : Nat) (r : List (Option Int)) (n : Nat) : List Cell := (List.range n).filterMap fun k => if (r.getD k none).isSome then some ((i : Int), (k : Int)) else none
theorem preR_succ {i n : Nat} {r : List (Option Int)} : preR i r (n + 1) = preR i r n ++ (if (r.getD n none).isSome then [((i : Int), (n : Int))] else []) := by
  unfold preR
  rw [List.range_succ, List.filterMap_append]
  congr 1
  by_cases h : (r.getD n none).isSome = true
  · rw [List.filterMap_cons, if_pos h, if_pos h]
    rfl
  · rw [List.filterMap_cons, if_neg h, if_neg h]
    rfl
theorem preA_succ {s : Sea} {i : Nat} : preA s (i + 1) = preA s i ++ rowCells i (s.rows.getD i []) := by
  unfold preA
  rw [List.range_succ, List.flatMap_append]
  simp
theorem mem_preA {s : Sea} {i : Nat} {c : Cell} (h : c ∈ preA s i) : c.1 < i := by
  obtain ⟨j, hj, hc⟩ := List.mem_flatMap.mp h
  have := List.mem_range.mp hj
  have := (mem_rowCells.mp hc).1
  omega
theorem mem_preR {i n : Nat} {r : List (Option Int)} {c : Cell} (h : c ∈ preR i r n) : c.1 = i ∧ c.2 < n := by
  obtain ⟨k, hk, hc⟩ := List.mem_filterMap.mp h
  have := List.mem_range.mp hk
  split at hc
  · cases hc
    dsimp only
    omega
  · cases hc
theorem preR_len {i n : Nat} {r : List (Option Int)} : (preR i r n).length ≤ n := by
  have := List.length_filterMap_le (fun k => if (r.getD k none).isSome then some ((i : Int), (k : Int)) else none) (List.range n)
  rw [List.length_range] at this
  exact this
theorem preA_len {s : Sea} (ok : SeaOk s) : ∀ i, i ≤ s.rows.length → (preA s i).length ≤ i * 3
  | 0, _ => by simp [preA]
  | i + 1, h => by
    have ih := preA_len ok i (by omega)
    obtain ⟨w, w1, w3, hw⟩ := ok.wide
    have e := hw _ (getD_mem (d := []) (show i < s.rows.length by omega))
    have z : (rowCells i (s.rows.getD i [])).length ≤ (s.rows.getD i []).length := preR_len (i := i) (r := s.rows.getD i [])
    rw [preA_succ, List.length_append]
    omega
section
variable {P : Program} {w : World} {K : PySem.W.Frag} {mg : Str → Option Value} {base : Heap} {W : Wd}
theorem kb_chart {f : Addr} {fd : FuncData} {T : Addr} (F : FunD K "__init__" "Chart.__init__" (defArgs s_Chart___init__) (defBody s_Chart___init__) (defScope s_Chart___init__) [.ref T] [("top", .int 9)] f fd) :
    ∃ g : List Value → List Value → List Value, KBn K fd ["self", "rows", "winds", "top"] 3 ["top"] g (fun vs zs => vs ++ zs) := by
  obtain ⟨its, mv, h⟩ := F.kbinds (ps := ["self", "rows", "winds", "top"]) 3 ["top"] [] (fun us _ _ ws => us ++ ws) (by simp) (by simp) (by simp) (fun a _ _ b => Vals.append a b) fun T D doc pm an cdv ct us its mv ws l1 l2 l3 l4 => by
    match us, l1, its, l2, mv, l3, ws, l4 with
    | [a, b, c], _, [d], _, [], _, [e], _ => exact ⟨_, rfl, rfl⟩
  exact ⟨_, h⟩
abbrev spChart (W : Wd) : Sp := SpIn W.cc (fun x : Sea => [dt (.list (x.rows.map dRow)), dt (.list (x.gusts.map dGust)), dt (.int x.top)]) (fun x => SeaOk x ∧ waterB x.rows = true) (chI W)
theorem sc_Chart___init__ : FnScope ["self", "rows", "winds", "top", "row", "items", "column", "drag"] ["self", "rows", "winds", "top"] (defScope s_Chart___init__) := C8.fnScope_by (by decide +kernel)
theorem ok_Chart___init__ {T9 : Addr} (T : Bt mg) (Z : Kc K mg W) (cis_number : C8.Cal P w K mg base 1 "is_number" spNumber []) (ccheck_rows : C8.Cal P w K mg base 2 "check_rows" spRows []) (ccheck_winds : C8.Cal P w K mg base 3 "check_winds" spWinds []) (F : DfI K mg "Chart" W.cc "Chart.__init__" s_Chart___init__ [.ref T9] [("top", .int 9)]) : Mkr P w K mg base 4 "Chart" W.cc 2 ["top"] (spChart W) := by
  have sc := sc_Chart___init__
  refine F.mkr (ps := ["self", "rows", "winds", "top"]) sc (SpIn.len fun _ => rfl) (fun F => kb_chart F) fun f cdv A outer s H vs Q E hr hsp => ?_
  refine ⟨_, (pss_cons (ps_expr (C8.pe_c ccheck_rows hr (by decide) (by rfl) (pa_cons (pv 1) pa_nil)))
    (pss_cons (ps_expr (C8.pe_c ccheck_winds hr (by decide) (by rfl) (pa_cons (pv 2) pa_nil)))
    (pss_cons (ps_if (pt_not (pt_val (C8.pe_c cis_number hr (by decide) (by rfl) (pa_cons (pv 3) (pa_cons pe_int (pa_cons (pe_glob (v := .int 99) (by rfl) T.g_GREATEST_charts.choose_spec ⟨_, rfl⟩) pa_nil)))))) (pss_one ps_never) pss_nil)
    (pss_cons (ps_fld (pv 0) (pv 3) rfl)
    (pss_cons (ps_fld (pv 0) (pe_callB call_len_seq (by rfl) T.n_len bb_len (pa_cons (pv 2) pa_nil)) rfl)
    (pss_cons (ps_fld (pv 0) (pe_lc (own := [("row", 4)]) rfl sc.nd (pi_list (pv 1)) (blkOk_by (own := [("row", 4)]) (N := ["self", "rows", "winds", "top", "row", "items", "column", "drag"]) (sc := defScope s_Chart___init__) (by decide +kernel)) (fun _ _ _ _ _ => (pg_name (i := 4) sc.nd rfl (by first | exact Or.inl rfl | exact Or.inr rfl))) (fun _ _ _ _ _ => pts_nil) (fun _ _ _ _ _ => (pe_callTy (call_listK K rfl) (by rfl) T.n_list bb_list (pa_cons (pv 4) pa_nil)))) rfl)
    (pss_cons (ps_fld (pv 0) (pe_callTy call_list_of (by rfl) T.n_list bb_list (pa_cons (pv 2) pa_nil)) rfl)
    (pss_cons (ps_fld (pv 0) pe_dnewT rfl)
    (pss_one (ps_for PassesOwn.never rfl (pi_enum (by rfl) T.n_enumerate (pa_cons (pe_fld (pv 0) rfl) pa_nil)) (pg_tup (n := 2) rfl (pgs_cons (pg_name (i := 4) sc.nd rfl (by first | exact Or.inl rfl | exact Or.inr rfl)) (pgs_cons (pg_name (i := 5) sc.nd rfl (by first | exact Or.inl rfl | exact Or.inr rfl)) pgs_nil)))
      (pss_one (ps_for PassesOwn.never rfl (pi_enum (by rfl) T.n_enumerate (pa_cons (pv 5) pa_nil)) (pg_tup (n := 2) rfl (pgs_cons (pg_name (i := 6) sc.nd rfl (by first | exact Or.inl rfl | exact Or.inr rfl)) (pgs_cons (pg_name (i := 7) sc.nd rfl (by first | exact Or.inl rfl | exact Or.inr rfl)) pgs_nil)))
        (pss_one (ps_if (pt_cmpR op_notN (pv 7) pe_non (nomark _)) (pss_one (ps_dput (hu_of hr) (pe_fld (pv 0) rfl) (pe_tup (pa_cons (pv 4) (pa_cons (pv 6) pa_nil))) (pv 7) rfl)) pss_nil)))))))))))))), ?_⟩
  obtain ⟨x, B, H0, o, dx, ws, hp, n1, n2, n3, rfl, s0, rfl, ha, q⟩ := hsp
  dsimp only at hp ha q
  obtain ⟨v1, v2, v3, rfl, h1, h2, h3⟩ := ita3 ha
  obtain ⟨ok, hw⟩ := hp
  have w0 := Own1.start (C := W.cc) s0 n1 n2 n3
  refine s_drop (ev_call x (ea1 (ev_var h1)) ⟨ok, hw⟩) w0.g.sub fun v B1 H1 g1 _ => ?_
  have m2 : ∀ {B'}, Same B B' → Rp B' v2 (.list (x.gusts.map dGust)) := fun s => Rp.mono (Sd.of s) h2
  have m1 : ∀ {B'}, Same B B' → Rp B' v1 (.list (x.rows.map dRow)) := fun s => Rp.mono (Sd.of s) h1
  have e3 : v3 = .int x.top := Rp.int_eq h3
  subst e3
  have t1 := ok.top1
  have t2 := ok.top99
  refine s_drop (ev_call x (ea1 (ev_var (I := dt (.list (x.gusts.map dGust))) (m2 g1.base))) ok) g1.sub fun v B2 H2 g2 _ => ?_
  have w2 := (w0.step g1).step g2
  refine s_ifN ((et_not (et_B (ev_call (.int x.top, 1, 99) (ea_cons (ev_var (I := dt (.int x.top)) (.int _)) (ea_cons ev_int (ea_cons ev_int ea_nil))) trivial))).is ?_) g2.sub fun B3 H3 g3 => ?_
  · show (!(decide (1 ≤ x.top) && decide (x.top ≤ 99))) = false
    simp [t1, t2]
  have w3 := w2.step g3
  refine s_fldW w3 (ev_var (I := dt (.int x.top)) (.int _)) Z.clsC (Z.noC _ (by decide)) (by decide) fun v B4 H4 g4 _ w4 => ?_
  refine s_fldW w4 (ev_cb (ea1 (ev_var (I := dt (.list (x.gusts.map dGust))) (m2 (w4.g.base)))) rc_len) Z.clsC (Z.noC _ (by decide)) (by show 1 < 1000; decide) fun v B5 H5 g5 p5 w5 => ?_
  have p5 : v = .int x.last := by rw [Rp.int_eq p5, List.length_map]; rfl
  subst p5
  refine s_fldW w5 (I := dt (.list (x.rows.map dRow))) ((ev_lcL (fun d => some d) (wk_list (ev_var (I := dt (.list (x.rows.map dRow))) (m1 (w5.g.base)))) ?_ fun d y B6 hd s6 p6 => ?_).is ?_) Z.clsC (Z.noC _ (by decide)) (by show 2 < 1000; decide) fun v6 B6 H6 g6 p6 w6 => ?_
  · have := ok.le
    rw [List.length_map]
    omega
  · obtain ⟨r, hr2, rfl⟩ := List.mem_map.mp hd
    exact ⟨_, true, gt_name, rfl, et_yes, (fun z => nomatch z), fun _ => ⟨_, rfl, ev_cb (ea1 (ev_var (I := dt (dRow r)) p6)) rc_list⟩⟩
  · rw [List.filterMap_some]
  refine s_fldW w6 (ev_cb (ea1 (ev_var (I := dt (.list (x.gusts.map dGust))) (m2 (w6.g.base)))) rc_list) Z.clsC (Z.noC _ (by decide)) (by show 3 < 1000; decide) fun v7 B7 H7 g7 p7 w7 => ?_
  intro dd hdd
  have w8 := (w7.put (u := .dT []) hdd).set "drags" (.ref dd)
  refine ⟨_, rfl, o, W.cc, dx, _, rfl, (w7.put (u := .dT []) hdd).ho, Z.clsC, Z.noC _ (by decide), by show 4 < 1000; decide, ?_⟩
  have ndo : dd ≠ o := fun z => by
    subst z
    rw [w7.ho] at hdd
    cases hdd
  have ndx : dd ≠ dx := fun z => by
    subst z
    rw [w7.hd] at hdd
    cases hdd
  have h0d : H0 dd = none := w7.g.top.free hdd
  have b7d : B7 dd = none := w7.g.sub.free hdd
  have r6 : Rp B7 v6 (.list (x.rows.map dRow)) := Rp.mono (Sd.of g7.base) p6
  -- the instance is known from here on
  have e8 : putF "drags" (.ref dd) (putF "held_winds" v7 (putF "held_rows" v6 (putF "last" (.int x.last) (putF "top" v [])))) = chFs x v v6 v7 dd := rfl
  rw [e8] at w8 ⊢
  generalize hH8 : upd (upd (upd H7 o _) dd (.dT [])) o (.ins W.cc dx (chFs x v v6 v7 dd)) = H8 at w8 ⊢
  have gc := w8.done
  have sc8 := w8.same
  have eH8 : H8 dd = some (.dT []) := by rw [← hH8, upd_ne ndo, upd_same]
  generalize hBc : upd (upd B7 dx (.own o)) o (.ins W.cc dx (chFs x v v6 v7 dd)) = Bc at gc sc8
  have bcd : Bc dd = none := by rw [← hBc, upd_ne ndo, upd_ne ndx]; exact b7d
  have bco : Bc o = some (.ins W.cc dx (chFs x v v6 v7 dd)) := by rw [← hBc, upd_same]
  clear hBc hH8
  have rc : Rp Bc v6 (.list (x.rows.map dRow)) := Rp.mono (Sd.of sc8) r6
  obtain ⟨wd, wd1, wd3, hwd⟩ := ok.wide
  have nle := ok.le
  let I0 : Item := ⟨fun u H => u = .ref o ∧ H o = some (.ins W.cc dx (chFs x v v6 v7 dd)) ∧ Rp H v6 (.list (x.rows.map dRow)), fun s ⟨a, b, c⟩ => ⟨a, s _ _ b, Rp.mono (Sd.of s) c⟩⟩
  have i0 : ∀ {B'}, Same Bc B' → I0.P (.ref o) B' := fun s => ⟨rfl, s _ _ bco, Rp.mono (Sd.of s) rc⟩
  dsimp only
  refine s_for (wk_enum (ds := x.rows.map dRow) (ev_fld (ev_var (i0 (Same.refl _))) fun u A ⟨a, b, c⟩ => ⟨o, W.cc, dx, _, v6, a, b, Z.clsC, Z.noC _ (by decide), rfl, c⟩)) gc.sub fun B9 H9 g9 =>
    ⟨fun i σ Bi Hi => (∃ a b c d, σ = [some (.ref o), some v1, some v2, some (.int x.top), a, b, c, d]) ∧ Grow B H0 Bi Hi ∧ Bi dd = none ∧ ∃ kvs, Hi dd = some (.dT kvs) ∧ kvs.map Prod.fst = (preA x i).map kC,
      ⟨⟨_, _, _, _, rfl⟩, gc.trans g9, (g9.kept bcd eH8).1, [], (g9.kept bcd eH8).2, rfl⟩, ?_, ?_⟩
  · rintro i y _ Ba Ha Bb Hb l ⟨⟨a, b, c, d, rfl⟩, gg, bd, kvs, eh, ek⟩ sa gb py
    rw [List.length_map] at l
    have py : Rp Bb y (.tuple [.int i, (x.rows.map dRow).getD i .none]) := py
    rw [getD_row l] at py
    obtain ⟨u, ru, gt⟩ := gt_pair (K := K) (σ := [some (.ref o), some v1, some v2, some (.int x.top), a, b, c, d]) (i := 4) (j := 5) py
    refine ⟨_, gt, ?_⟩
    have lr := hwd _ (List.getElem_mem l)
    have lA := preA_len ok i (by omega)
    have kb := gb.kept bd eh
    refine s_for (wk_enum (ev_var (I := dt (dRow x.rows[i])) ru)) gb.sub fun B6 H6 g6 =>
      ⟨fun j σ Bi Hi => (∃ c d, σ = [some (.ref o), some v1, some v2, some (.int x.top), some (.int i), some u, c, d]) ∧ Grow B H0 Bi Hi ∧ Bi dd = none ∧ ∃ kvs, Hi dd = some (.dT kvs) ∧ kvs.map Prod.fst = (preA x i ++ preR i x.rows[i] j).map kC,
        ⟨⟨_, _, rfl⟩, (gg.trans gb).trans g6, (g6.kept kb.1 kb.2).1, kvs, (g6.kept kb.1 kb.2).2, by rw [ek]; simp [preR]⟩, ?_, ?_⟩
    · rintro j z _ Bc' Hc Bd Hd lj ⟨⟨c, d, rfl⟩, gh, bd', kvs', eh', ek'⟩ s7 g8 pz
      rw [List.length_map] at lj
      have pz : Rp Bd z (.tuple [.int j, (x.rows[i].map dO).getD j .none]) := pz
      rw [getD_mapf lj] at pz
      obtain ⟨t, rt, gt⟩ := gt_pair (K := K) (σ := [some (.ref o), some v1, some v2, some (.int x.top), some (.int i), some u, c, d]) (i := 6) (j := 7) pz
      refine ⟨_, gt, ?_⟩
      have hg : (x.rows[i].getD j none) = x.rows[i][j] := by simp [List.getD, lj]
      have gz := gh.trans g8
      have kz := g8.kept bd' eh'
      have lR := preR_len (i := i) (r := x.rows[i]) (n := j)
      refine s_if (b := x.rows[i][j].isSome) ((et_test (ev_notN (ev_var (I := dt (dO x.rows[i][j])) rt))).is (isNon_dO _)) g8.sub (fun hs Be He ge => ?_) fun hs Be He ge => ?_
      · have ky := ge.kept kz.1 kz.2
        have len : kvs'.length = (preA x i).length + (preR i x.rows[i] j).length := by
          have := congrArg List.length ek'
          rw [List.length_map, List.length_map, List.length_append] at this
          exact this
        refine s_dputO (is := [(i : Int), (j : Int)]) (ev_var (I := dt (dO x.rows[i][j])) (Rp.mono (Sd.of ge.base) rt)) ge.sub (fun B1 H1 g1 Q q => ?_) (ev_tup (ds := [.int i, .int j]) (ea_cons (ev_var (I := dt (.int i)) (.int _)) (ea_cons (ev_var (I := dt (.int j)) (.int _)) ea_nil)) (by show 2 ≤ 100000; decide)) ky.1 ky.2 ?_ fun v' B1 H1 g1 _ b1 e1 => ?_
        · have hob : H1 o = some (.ins W.cc dx (chFs x v v6 v7 dd)) := by
            have sx : Same Bc Hc := by
              exact ((g9.base.trans (sa.trans (gb.base.trans (g6.base.trans s7)))).trans gh.sub)
            exact g1.top _ _ (ge.top _ _ (g8.top _ _ (sx _ _ bco)))
          exact ⟨_, rfl, o, W.cc, dx, _, .ref dd, rfl, hob, Z.clsC, Z.noC _ (by decide), rfl, q⟩
        · rw [len]
          exact Nat.lt_of_le_of_lt (by omega : _ ≤ 100) (by decide)
        · refine ⟨B1, s7.trans (g8.base.trans (ge.base.trans g1.base)), Same.put ((gz.trans ge).trans g1).sub b1, ⟨_, _, rfl⟩, ((gz.trans ge).trans g1).put h0d b1, b1, _, upd_same, ?_⟩
          rw [putK_new]
          · rw [List.map_append, ek', preR_succ, hg, if_pos hs, ← List.append_assoc, List.map_append (l₁ := preA x i ++ preR i x.rows[i] j)]
            rfl
          · rw [ek']
            intro hz
            obtain ⟨e, he, hk⟩ := List.mem_map.mp hz
            have he2 : e = ((i : Int), (j : Int)) := kC_inj hk
            subst he2
            rcases List.mem_append.mp he with h | h
            · have := mem_preA h
              dsimp only at this
              omega
            · have := (mem_preR h).2
              dsimp only at this
              omega
      · have ky := ge.kept kz.1 kz.2
        refine ⟨Be, s7.trans (g8.base.trans ge.base), (gz.trans ge).sub, ⟨_, _, rfl⟩, gz.trans ge, ky.1, kvs', ky.2, ?_⟩
        rw [ek', preR_succ, hg, if_neg (by rw [hs]; exact Bool.false_ne_true), List.append_nil]
    · rintro _ Bc' Hc ⟨⟨c, d, rfl⟩, gh, bd', kvs', eh', ek'⟩ s7 s8
      refine ⟨Bc', sa.trans (gb.base.trans (g6.base.trans s7)), gh.sub, ⟨_, _, _, _, rfl⟩, gh, bd', kvs', eh', ?_⟩
      rw [ek', preA_succ]
      have hg : x.rows.getD i [] = x.rows[i] := by simp [List.getD, l]
      rw [hg, List.length_map]
      rfl
  · rintro _ Ba Ha ⟨⟨a, b, c, d, rfl⟩, gg, bd, kvs, eh, ek⟩ sa sb
    have gf := gg.commit h0d bd eh
    have so : Same Bc (upd Ba dd (.dT kvs)) := (g9.base.trans sa).trans (same_new bd)
    refine q _ _ gf ⟨o, dx, v, v6, v7, dd, kvs, rfl, so _ _ bco, upd_same, ?_⟩
    rw [ek, List.length_map]
    rfl
end
end Sky

set_option Elab.async false
set_option linter.all false
set_option maxRecDepth 100000
set_option maxHeartbeats 4000000
/-! Methods with a closure over __class__ that say super().m(..) first. -/
namespace Sky
open PySem PySem.Spec PyProof.Rows L2
/-! ### a call's names: own cells and captured ones -/
theorem cellsFrom_app : ∀ (l : List (Str × NameKind)) (n : Nat) (acc : List (Str × Addr)), cellsFrom n l acc = cellsFrom n l [] ++ acc
  | [], n, acc => rfl
  | (x, k) :: r, n, acc => by
    unfold cellsFrom
    by_cases h : (k == NameKind.cell) = true
    · rw [if_pos h, if_pos h, cellsFrom_app r (n + 1) ((x, n) :: acc), cellsFrom_app r (n + 1) [(x, n)], List.append_assoc]
      rfl
    · rw [if_neg h, if_neg h]
      exact cellsFrom_app r n acc
theorem lookup_left {l m : List (Str × Addr)} {x : Str} {c : Addr} (h : l.lookup x = some c) : (l ++ m).lookup x = some c := by
  rw [List.lookup_append, h]
  rfl
section
variable {M : Model} {A : Around} {E : Value → Shared → Prop} {s₀ s : Shared} {m cm : Str → Option Value} {env : Env} {cs : List (Str × Addr)}
theorem stLS {n : Str} {v : Value} {Q : Unit → Shared → Prop} (x : InCallC s₀ env.locals m cs cm s) (hk : env.scope.kind = .function) (hl : env.kindOf n = some .local)
    (h : ∀ s', InCallC s₀ env.locals (fun y => if y = n then some v else m y) cs cm s' → Q () s') : wpAny M A (storeName env n v) Q E s := by
  refine wpAny_storeName_local hl x.toInCall.ns (fun h' hn' hs' => h _ ⟨⟨?_, hn', fun b o e => ?_, x.toInCall.fresh⟩, fun k c hc => ?_, x.apart, x.above⟩) (by rw [hk]; rfl)
  · obtain ⟨h₁, tk, rfl⟩ := x.toInCall.same
    exact ⟨h', _, rfl⟩
  · exact hs'.extBut b o (Nat.ne_of_lt (Nat.lt_of_lt_of_le (Heap.lt_size e) x.toInCall.fresh)) (x.toInCall.keep b o e)
  · exact (x.cell k c hc).sameBut hs' (Nat.ne_of_gt (x.above k c (mem_of_lookup hc)))
theorem stCS {n : Str} {c : Addr} {v : Value} {Q : Unit → Shared → Prop} (x : InCallC s₀ env.locals m cs cm s) (hk : env.scope.kind = .function) (hl : env.kindOf n = some .cell)
    (hc : cs.lookup n = some c) (he : env.cells.lookup n = some c) (h : ∀ s', InCallC s₀ env.locals m cs (fun y => if y = n then some v else cm y) s' → Q () s') : wpAny M A (storeName env n v) Q E s := by
  have hLc := x.above n c (mem_of_lookup hc)
  refine wpAny_storeName_cell hk hl he (x.cell n c hc) fun h' hc' hs' => h _ ⟨⟨?_, x.toInCall.ns.sameBut hs' (Nat.ne_of_lt hLc), fun b o e => ?_, x.toInCall.fresh⟩, fun k c' hk' => ?_, x.apart, x.above⟩
  · obtain ⟨h₁, tk, rfl⟩ := x.toInCall.same
    exact ⟨h', _, rfl⟩
  · exact hs'.extBut b o (Nat.ne_of_lt (Nat.lt_trans (Nat.lt_of_lt_of_le (Heap.lt_size e) x.toInCall.fresh) hLc)) (x.toInCall.keep b o e)
  · by_cases hkn : k = n
    · subst hkn
      rw [hc] at hk'
      cases hk'
      simpa using hc'
    · rw [if_neg hkn]
      exact (x.cell k c' hk').sameBut hs' fun e => hkn (name_of_addr x.apart (mem_of_lookup hk') (e ▸ mem_of_lookup hc))
theorem bindS (f : Str × Value → PUnit → Sem (ForInStep PUnit)) (hf : ∀ n v u, f (n, v) u = (do storeName env n v; pure (.yield ⟨⟩))) (hk : env.scope.kind = .function) (hin : ∀ n c, cs.lookup n = some c → env.cells.lookup n = some c) :
    ∀ (binds : List (Str × Value)) (m cm : Str → Option Value) (s : Shared) (Q : PUnit → Shared → Prop), InCallC s₀ env.locals m cs cm s →
      (∀ x ∈ binds, env.kindOf x.1 = some .local ∨ (env.kindOf x.1 = some .cell ∧ (cs.lookup x.1).isSome = true)) →
      (∀ s', InCallC s₀ env.locals (bindL env.kindOf binds m) cs (bindC env.kindOf binds cm) s' → Q ⟨⟩ s') → wpAny M A (forIn binds ⟨⟩ f) Q E s
  | [], m, cm, s, Q, x, _, h => by rw [List.forIn_nil]; exact wpAny_pure (h s x)
  | (n, v) :: r, m, cm, s, Q, x, hkind, h => by
    rw [List.forIn_cons, hf]
    have hr : ∀ y ∈ r, env.kindOf y.1 = some .local ∨ (env.kindOf y.1 = some .cell ∧ (cs.lookup y.1).isSome = true) := fun y hy => hkind y (List.mem_cons_of_mem _ hy)
    rcases hkind (n, v) List.mem_cons_self with hl | ⟨hl, hc⟩
    · refine wpAny_bind (wpAny_bind (stLS x hk hl fun s' x' => wpAny_pure (bindS f hf hk hin r _ _ s' Q x' hr fun s'' x'' => h s'' ?_)))
      unfold bindL bindC
      rw [if_pos hl, if_pos hl]
      exact x''
    · obtain ⟨c, hc⟩ := Option.isSome_iff_exists.mp hc
      have hnl : ¬ env.kindOf n = some .local := by rw [hl]; decide
      refine wpAny_bind (wpAny_bind (stCS x hk hl hc (hin n c hc) fun s' x' => wpAny_pure (bindS f hf hk hin r _ _ s' Q x' hr fun s'' x'' => h s'' ?_)))
      unfold bindL bindC
      rw [if_neg hnl, if_neg hnl]
      exact x''
end
theorem newEnvS {M : Model} {A : Around} {E : Value → Shared → Prop} {s : Shared} {scope : Scope} {globals : Addr} {cl : List (Str × Addr)} {binds : List (Str × Value)} {qual : Str} {func : Option Addr} {code : Value} {builtins : Addr} {Q : Env → Shared → Prop}
    (hk : scope.kind = .function)
    (hkind : ∀ x ∈ binds, scope.names.lookup x.1 = some .local ∨ (scope.names.lookup x.1 = some .cell ∧ ((cellsFrom (s.heap.objs.size + 1) scope.names []).lookup x.1).isSome = true))
    (hQ : ∀ env, env = newEnv scope s.heap.objs.size globals (cellsFrom (s.heap.objs.size + 1) scope.names [] ++ cl) qual func code none builtins →
      ∀ s', InCallC s env.locals (bindL env.kindOf binds fun _ => none) (cellsFrom (s.heap.objs.size + 1) scope.names []) (bindC env.kindOf binds fun _ => none) s' → Q env s') :
    wpAny M A (newFunctionEnv scope globals cl binds qual func code none builtins) Q E s := by
  simp only [newFunctionEnv, Option.isSome_none, Bool.false_eq_true, if_false]
  refine wpAny_bind (wpAny_alloc ?_)
  refine wpAny_bind (wpAny_layCells _ (fun name kind cells => by cases hkc : kind == NameKind.cell <;> simp [hkc]) _ _ _ _ ?_)
  have ok := cellsFrom_ok scope.names (s.heap.push { cls := .type "frame", data := .dict #[] }) (s.heap.objs.size + 1) [] ⟨fun _ _ hm => (nomatch hm), List.Pairwise.nil⟩ (by rw [Heap.size_push]; exact Nat.le_refl _)
  rw [Heap.size_push] at ok
  rw [show ({ s with heap := s.heap.push { cls := .type "frame", data := .dict #[] } } : Shared).heap.objs.size = s.heap.objs.size + 1 from Heap.size_push ..]
  rw [cellsFrom_app scope.names (s.heap.objs.size + 1) cl]
  refine wpAny_bind (bindS (s₀ := s) (env := newEnv scope s.heap.objs.size globals (cellsFrom (s.heap.objs.size + 1) scope.names [] ++ cl) qual func code none builtins) (cs := cellsFrom (s.heap.objs.size + 1) scope.names [])
    _ (fun _ _ _ => rfl) hk (fun n c h => lookup_left h) binds (fun _ => none) (fun _ => none) _ _
    ⟨⟨⟨_, _, rfl⟩, (Heap.Ns.new s.heap (.type "frame")).keeps (pushCells_keeps _ _), fun b o e => pushCells_keeps _ _ b o (Heap.get?_push_of_some _ e), Nat.le_refl _⟩,
      fun n c hc => (ok.empty n c (mem_of_lookup hc)).1, ok.apart, fun n c hm => (ok.empty n c hm).2⟩
    hkind fun s' x => wpAny_pure (hQ _ rfl s' x))
/-! ### the context of such a body -/
def envS (qual : Str) (scope : Scope) (L f : Addr) (cd : Value) (cc : Addr) : Env :=
  { scope := scope, locals := L, globals := mainGlobals, cells := cellsFrom (L + 1) scope.names [] ++ [(("__class__" : Str), cc)], qual := qual ++ ".<locals>.", func := some f, code := cd, frame := some L, builtins := builtinsNs }
def cxS (P : Program) (w : World) (K : PySem.W.Frag) (mg : Str → Option Value) (base : Heap) (N : List Str) (qual : Str) (scope : Scope) (f : Addr) (cd : Value) (cc : Addr) (A : Around) (outer : List Env) (s : Shared) (H : Hp) : Cx where
  prog := P
  w := w
  K := K
  mg := mg
  base := base
  A := A.deeper (envS qual scope s.heap.objs.size f cd cc)
  N := N
  s_0 := s
  H_0 := H
  env := envS qual scope s.heap.objs.size f cd cc
  outer := outer
  stack := envS qual scope s.heap.objs.size f cd cc :: outer
  ex := []
  calm := true
  fn := fun _ => false
  pn := []
  xe := fun _ _ => False
structure SScope (N P : List Str) (sc : Scope) : Prop where
  kind : sc.kind = .function
  co : sc.isCoroutine = false
  gen : sc.isGenerator = false
  nd : N.Nodup
  pre : N.take P.length = P
  par : ∀ x ∈ P, sc.names.lookup x = some .local ∨ sc.names.lookup x = some .cell
  free : ∀ y ∈ sc.names, y.2 = .free → y.1 = "__class__"
  ncl : sc.names.lookup ("__class__" : Str) = some .free
  sup : sc.names.lookup ("super" : Str) = some .globalImplicit
def sscB (N P : List Str) (sc : Scope) : Bool :=
  decide (sc.kind = .function) && !sc.isCoroutine && !sc.isGenerator && decide N.Nodup && decide (N.take P.length = P) && P.all (fun x => decide (sc.names.lookup x = some .local) || decide (sc.names.lookup x = some .cell)) && sc.names.all (fun y => !decide (y.2 = .free) || decide (y.1 = "__class__")) &&
    decide (sc.names.lookup ("__class__" : Str) = some .free) && decide (sc.names.lookup ("super" : Str) = some .globalImplicit)
theorem sscope_by {N P : List Str} {sc : Scope} (h : sscB N P sc = true) : SScope N P sc := by
  unfold sscB at h
  simp only [Bool.and_eq_true, Bool.not_eq_true', decide_eq_true_eq, List.all_eq_true, Bool.or_eq_true, decide_eq_false_iff_not] at h
  obtain ⟨⟨⟨⟨⟨⟨⟨⟨h1, h2⟩, h3⟩, h4⟩, h5⟩, h6⟩, h7⟩, h8⟩, h9⟩ := h
  exact ⟨h1, h2, h3, h4, h5, h6, fun y hy e => (h7 y hy).elim (fun z => absurd e z) id, h8, h9⟩
theorem cell_names : ∀ {l : List (Str × NameKind)} {n : Nat} {acc : List (Str × Addr)} {x : Str} {c : Addr}, (x, c) ∈ cellsFrom n l acc → (x, NameKind.cell) ∈ l ∨ (x, c) ∈ acc
  | [], _, _, _, _, h => .inr h
  | (y, k) :: r, n, acc, x, c, h => by
    unfold cellsFrom at h
    by_cases hk : (k == NameKind.cell) = true
    · rw [if_pos hk] at h
      rcases cell_names h with h | h
      · exact .inl (List.mem_cons_of_mem _ h)
      · rcases List.mem_cons.mp h with e | h
        · cases e
          exact .inl (by rw [beq_iff_eq.mp hk]; exact List.mem_cons_self ..)
        · exact .inr h
    · rw [if_neg hk] at h
      rcases cell_names h with h | h
      · exact .inl (List.mem_cons_of_mem _ h)
      · exact .inr h
section
variable {P : Program} {w : World} {K : PySem.W.Frag} {mg : Str → Option Value} {base : Heap} {N ps : List Str} {qual : Str} {scope : Scope} {f cc : Addr} {cd : Value} {A : Around} {outer : List Env} {s s1 : Shared} {H : Hp} {us : List Value} {vs : List V}
theorem inv_startS (S : SScope N ps scope) (hnd : ∀ k, (("__class__" : Str), k) ∈ scope.names → k = NameKind.free) (hd : A.handled = none) (e0 : Env0 P w K mg base A outer s H) (hl : vs.length = ps.length) (r : Vals vs us) (hcc : H cc = none) (hcell : ∃ v, s.heap.IsCell cc v)
    (x : InCallC s s.heap.objs.size (bindL (envS qual scope s.heap.objs.size f cd cc).kindOf (ps.zip us) fun _ => none) (cellsFrom (s.heap.objs.size + 1) scope.names []) (bindC (envS qual scope s.heap.objs.size f cd cc).kindOf (ps.zip us) fun _ => none) s1) :
    Inv (cxS P w K mg base N qual scope f cd cc A outer s H) [] (L2.start N vs) H s1 := by
  have hpl : ps.length ≤ N.length := by have := congrArg List.length S.pre; rw [List.length_take] at this; omega
  obtain ⟨h1, tk, rfl, hk⟩ := x.done
  have noA : ∀ b : Addr, b ∉ (cxS P w K mg base N qual scope f cd cc A outer s H).ex := fun b z => absurd (show b ∈ ([] : List Addr) from z) (by simp)
  have split : ∀ {y : Str} {c : Addr}, (envS qual scope s.heap.objs.size f cd cc).cells.lookup y = some c → (cellsFrom (s.heap.objs.size + 1) scope.names []).lookup y = some c ∨ (y = "__class__" ∧ c = cc) := fun {y c} h => by
    have h : (cellsFrom (s.heap.objs.size + 1) scope.names [] ++ [(("__class__" : Str), cc)]).lookup y = some c := h
    rw [List.lookup_append] at h
    cases e : (cellsFrom (s.heap.objs.size + 1) scope.names []).lookup y with
    | some d =>
      rw [e] at h
      exact .inl h
    | none =>
      rw [e] at h
      have h : List.lookup y [(("__class__" : Str), cc)] = some c := h
      rw [List.lookup_cons] at h
      cases hb : y == ("__class__" : Str) with
      | true =>
        rw [hb] at h
        exact .inr ⟨beq_iff_eq.mp hb, (Option.some.inj h).symm⟩
      | false =>
        rw [hb] at h
        cases h
  obtain ⟨cv, hcv⟩ := hcell
  have ccl : cc < s.heap.objs.size := hcv.lt
  have nocl : ∀ c, (cellsFrom (s.heap.objs.size + 1) scope.names []).lookup ("__class__" : Str) ≠ some c := fun c e => by
    rcases cell_names (PySem.mem_of_lookup e) with h | h
    · cases hnd _ h
    · cases h
  refine ⟨⟨e0.mod, S.kind, rfl, rfl, Nat.le_refl _, fun y z c h1 h2 => ?_, fun y hy => ?_, fun y c z _ => ?_, fun _ => hd, Around.frames_deeper e0.frames, .inr ⟨rfl, rfl⟩, fun b z => absurd z (noA b), e0.bs, e0.bsz, fun b _ _ => noA b, fun b z => absurd z (noA b), e0.funs, e0.frf⟩,
    rfl, e0.bare, Un.kept hk, ⟨_, x.toInCall.ns, fun i y v h1 h2 h3 => ?_⟩, fun y c h => ?_, e0.hok.fresh (Nat.le_refl _), fun y c h => ?_, fun p hp => absurd (show p ∈ ([] : List (Addr × Obj)) from hp) (by simp), e0.hok.kept hk, ?_⟩
  · rcases split h1 with a | ⟨a1, a2⟩ <;> rcases split h2 with b | ⟨b1, b2⟩
    · exact name_of_addr x.apart (PySem.mem_of_lookup a) (PySem.mem_of_lookup b)
    · have q := x.above y c (PySem.mem_of_lookup a)
      rw [b2] at q
      exact absurd (Nat.lt_trans q ccl) (Nat.lt_irrefl _)
    · have q := x.above z c (PySem.mem_of_lookup b)
      rw [a2] at q
      exact absurd (Nat.lt_trans q ccl) (Nat.lt_irrefl _)
    · rw [a1, b1]
  · have hy : scope.names.lookup y = some .cell ∨ scope.names.lookup y = some .free := hy
    rcases hy with hy | hy
    · obtain ⟨c, hc⟩ := cell_has (n := s.heap.objs.size + 1) hy
      exact ⟨c, lookup_left hc⟩
    · have e := S.free _ (PySem.mem_of_lookup hy) rfl
      dsimp only at e
      subst e
      refine ⟨cc, ?_⟩
      show (cellsFrom (s.heap.objs.size + 1) scope.names [] ++ [(("__class__" : Str), cc)]).lookup _ = _
      rw [List.lookup_append]
      cases e : (cellsFrom (s.heap.objs.size + 1) scope.names []).lookup ("__class__" : Str) with
      | some d => exact absurd e (nocl d)
      | none => rfl
  · have z : false = true := z
    cases z
  · have hi : i < vs.length := by
      unfold L2.start at h2
      by_cases hi : i < vs.length
      · exact hi
      · rw [List.getElem?_append_right (by simpa using hi)] at h2
        rw [List.getElem?_replicate] at h2
        split at h2 <;> cases h2
    have ha : vs[i]? = some v := by
      unfold L2.start at h2
      rw [List.getElem?_append_left (by simpa using hi), List.getElem?_map] at h2
      cases e : vs[i]? with
      | none => rw [e] at h2; cases h2
      | some a => rw [e] at h2; cases h2; rfl
    obtain ⟨u, hu, rv⟩ := r.get ha
    have hp : ps[i]? = some y := by
      rw [← S.pre, List.getElem?_take_of_lt (by omega)]; exact h1
    have ndP : ps.Nodup := by rw [← S.pre]; exact S.nd.sublist (List.take_sublist _ _)
    refine ⟨u, rv, ?_⟩
    rcases S.par y (List.mem_of_getElem? hp) with k | k
    · exact .inl ⟨k, bindL_get ndP hp hu k⟩
    · obtain ⟨c, e⟩ := cell_has (n := s.heap.objs.size + 1) k
      refine .inr ⟨.inl k, c, lookup_left e, ?_⟩
      have q := x.cell y c e
      rw [bindC_get ndP hp hu (by show scope.names.lookup y ≠ _; rw [k]; decide)] at q
      exact q
  · rcases split h with a | ⟨a1, a2⟩
    · exact ⟨_, x.cell y c a⟩
    · subst a2
      exact ⟨cv, hcv.keeps hk⟩
  · rcases split h with a | ⟨a1, a2⟩
    · exact e0.hok.fresh (Nat.le_of_lt (x.above y c (PySem.mem_of_lookup a)))
    · rw [a2]
      exact hcc
  · unfold L2.start
    show _ = N.length
    rw [List.length_append, List.length_map, List.length_replicate]
    omega
end
/-! ### judgements where the running code is known -/
structure PEA (X : Cx) (c : Code) (e : Expr) (t : TE) : Prop where
  run : ∀ (pins : List (Addr × Obj)) (s : Shared) (σ : L2.St) (H : Hp) (Q : VK), Inv X pins σ H s → t σ H Q → PySem.wpAt (model X.prog X.w) X.A c (eval e X.env) (EP X pins σ Q) X.xe s
structure PSA (X : Cx) (c : Code) (st : Stmt) (t : TS) : Prop where
  run : ∀ (pins : List (Addr × Obj)) (s : Shared) (σ : L2.St) (H : Hp) (D : Ends), Inv X pins σ H s → t D σ H → PySem.wpAt (model X.prog X.w) X.A c (exec st X.env) (SP X pins D) X.xe s
structure PSsA (X : Cx) (c : Code) (b : List Stmt) (t : TS) : Prop where
  run : ∀ (pins : List (Addr × Obj)) (s : Shared) (σ : L2.St) (H : Hp) (D : Ends), Inv X pins σ H s → t D σ H → PySem.wpAt (model X.prog X.w) X.A c (execs b X.env) (SP X pins D) X.xe s
theorem thnA {α : Type} {t : Sem α} {Q Q' : α → Shared → Prop} {M : Model} {A : Around} {c : Code} {E : Value → Shared → Prop} {s : Shared} (h : PySem.wpAt M A c t Q E s) (hQ : ∀ a s, Q a s → Q' a s) : PySem.wpAt M A c t Q' E s := PySem.wpAt_mono h hQ fun _ _ x => x
section
variable {X : Cx} {c : Code} {e e' : Expr} {es : List Expr} {te tu : TE} {st : Stmt} {b : List Stmt} {t u : TS} {pos p0 p1 apos : Pos} {tr tk : TA}
theorem pssA_cons (h1 : PSA X c st t) (h2 : PSs X b u) : PSsA X c (st :: b) (tSeq t u) := by
  refine ⟨fun pins s σ H D I h => ?_⟩
  refine ks_wpAt_execs_cons (thnA (h1.run pins s σ H { D with nx := u D } I h) fun f s1 q => ?_)
  cases f with
  | next =>
    obtain ⟨σ', H', I', q⟩ := q
    exact PySem.wpAt_of_wpAny (h2.run pins s1 σ' H' D I' q)
  | ret v => exact q
  | brk => exact q
  | cont => exact q
theorem pssA_one (h1 : PSA X c st t) : PSsA X c [st] t := by
  refine ⟨fun pins s σ H D I h => ?_⟩
  refine ks_wpAt_execs_cons (thnA (h1.run pins s σ H D I h) fun f s1 q => ?_)
  cases f with
  | next => exact PySem.wpAt_of_wpAny (wpAny_execs_nil q)
  | ret v => exact q
  | brk => exact q
  | cont => exact q
theorem psA_ret (he : PEA X c e te) : PSA X c (.Return (some e) pos) (tRet te) :=
  ⟨fun pins s σ H D I h => ks_wpAt_Return_some (thnA (he.run pins s σ H _ I h) fun v s1 ⟨x, H1, I1, r1, q1⟩ => ⟨x, σ, H1, I1, r1, q1⟩)⟩
theorem psA_expr (he : PEA X c e te) (hs : swapsWith e none pos.line X.env = pure false := by rfl) : PSA X c (.Expr e pos) (tDrop te) :=
  ⟨fun pins s σ H D I h => ks_wpAt_Expr_any (thnA (he.run pins s σ H _ I h) fun v s1 ⟨x, H1, I1, r1, q1⟩ => ⟨σ, H1, I1, q1⟩) I.quiet hs⟩
theorem psA_set {i : Nat} {x : Str} {pos' : Pos} (hN : X.N.Nodup) (hi : X.N[i]? = some x) (hx : Loc X.env.scope x) (he : PEA X c e te) (hs : swapsWith e (some (.Name x pos')) pos.line X.env = pure false := by rfl) (hf : X.fn x = true ∨ X.env.scope.names.lookup x = some .local := by first | exact .inl rfl | exact .inr rfl | assumption) :
    PSA X c (.Assign [.Name x pos'] e pos) (tAsg te (gName i)) :=
  ⟨fun pins s σ H D I h => ks_wpAt_Assign_Name (thnA (he.run pins s σ H _ I h) fun v s1 ⟨y, H1, I1, r1, q1⟩ => store_ok I1 hN hi hx r1 (fun s2 I2 => ⟨_, H1, I2, q1⟩) hf) hs⟩
theorem peA_and {rest : List Expr} (ha : PEA X c e te) (hb : PE X (.BoolOp .And (e' :: rest) pos) tu) : PEA X c (.BoolOp .And (e :: e' :: rest) pos) (tAndV te tu) := by
  refine ⟨fun pins s σ H Q I h => ?_⟩
  show PySem.wpAt _ _ _ (do
    let v ← eval e X.env
    standAt pos
    let c ← holding [v] (truthy v)
    match BoolOp.And, c with
    | .And, false | .Or, true => pure v
    | _, _ => boolOp pos .And (eval e' X.env :: evalEach rest X.env)) _ _ s
  refine PySem.wpAt_bind (thnA (ha.run pins s σ H _ I h) fun v s1 ⟨x, H1, I1, r1, q1⟩ => PySem.wpAt_of_wpAny (wpAny_bind (wpAny_standAt (wpAny_bind (wpAny_holding ?_)))))
  obtain ⟨d, rfl, q1⟩ := q1
  cases r1
  refine wpAny_truthy_bool ?_
  cases d with
  | true => exact hb.run pins s1 σ H1 Q I1 q1
  | false => exact wpAny_pure ⟨.bl false, H1, I1, rfl, q1⟩
end
/-! ### super() -/
structure SupC (X : Cx) (D : Addr) (i : Nat) : Prop where
  ks : X.env.kindOf "super" = some .globalImplicit
  kc : X.env.kindOf "__class__" = some .free
  fu : ∃ (f : Addr) (of : Obj) (fd : FuncData) (ar : Arg), X.env.func = some f ∧ X.K.lookup f = some of ∧ of.data = .func fd ∧ (fd.params.posonlyargs ++ fd.params.args).head? = some ar ∧ ar.arg = "self"
  co : ∃ (cda : Addr) (oc : Obj) (vs : Array Value) (file : Str) (tf : Tok), X.env.code = .ref cda ∧ X.K.lookup cda = some oc ∧ oc.data = .fields vs ∧ vs[2]? = some (.str file tf) ∧ ((X.prog.main.file : Str) == file) = true
  top : (X.prog.main.scope.names.lookup ("super" : Str)).isSome = false
  cell : ∃ (cc : Addr) (oc : Obj), X.env.cells.lookup ("__class__" : Str) = some cc ∧ X.K.lookup cc = some oc ∧ oc.data = .cell (some (.ref D))
  sub : PySem.W.mroIn X.K D (.ref D) = some true
  cls : PySem.W.isClsIn X.K D = true
  mgs : X.mg "super" = none
  self : X.N[i]? = some "self"
  vis : Vis X.env.scope "self"
  thd : PySem.W.nsIn X.K cStatics "thirdparty.any" = some none
section
variable {X : Cx} {pins : List (Addr × Obj)} {σ : L2.St} {H : Hp} {s : Shared} {D x dx : Addr} {fs : List (Str × V)} {i : Nat} {body : List Stmt} {p0 p1 : Pos} {attr m : Str} {whole : Sem Value} {f2 : Addr}
theorem ld_name {E : Value → Shared → Prop} {y : Str} {v : V} {Q : Value → Shared → Prop} (I : Inv X pins σ H s) (hN : X.N[i]? = some y) (hv : Vis X.env.scope y) (e : σ[i]? = some (some v)) (h : ∀ u, RelV v u → Q u s) (hcd : (y == ("__classdict__" : Str)) = false) : wpAny (model X.prog X.w) X.A (loadName X.env y) Q E s := by
  obtain ⟨m, hn, hl⟩ := I.loc
  obtain ⟨u, r, l⟩ := hl i y v hN e hv
  rcases l with ⟨hk, hm⟩ | ⟨hk, c, hc, hcell⟩
  · exact wpAny_loadName_local I.ok.kind hk hn hm (h u r)
  · rcases hk with hk | hk
    · exact wpAny_loadName_cell I.ok.kind hk hc hcell (h u r)
    · exact wpAny_loadName_free I.ok.kind hk hc hcell (h u r) hcd
theorem sup_base (S : SupC X D i) {Q : Value → Shared → Prop} (I : Inv X pins σ H s) (hs : σ[i]? = some (some (.ref x))) (hx : H x = some (.ins D dx fs)) (hat : (attr == ("__class__" : Str)) = false)
    (h : ∀ so s', Inv X ((so, PySem.W.ks_superObj D x D) :: pins) σ H s' → Q (.ref so) s') :
    PySem.wpAt (model X.prog X.w) X.A (.func body X.env) (attributeBase (.Call (.Name "super" p0) [] [] p1) attr X.env whole) Q X.xe s := by
  have KX := I.kIn
  obtain ⟨f, of, fd, ar, f1, f2, f3, f4, f5⟩ := S.fu
  obtain ⟨cda, oc, vs, file, tf, c1, c2, c3, c4, c5⟩ := S.co
  obtain ⟨cc, ocl, e1, e2, e3⟩ := S.cell
  obtain ⟨cdD, hD⟩ := Option.isSome_iff_exists.mp (show (PySem.W.clsIn X.K D).isSome = true from S.cls)
  obtain ⟨oD, hD1, hD2⟩ : ∃ oD, s.heap.get? D = some oD ∧ oD.data = .cls cdD := by
    unfold PySem.W.clsIn at hD
    split at hD
    · rename_i c d cd' sl ho
      cases hD
      exact ⟨_, KX _ _ ho, rfl⟩
    · cases hD
  obtain ⟨mA, J, _⟩ := ins_get I.hok hx
  obtain ⟨od, J, _⟩ := J.look
  refine ks_wpAt_super_base (env := X.env) S.ks S.kc hat f1 (KX _ _ f2) f3 f4 c1 (KX _ _ c2) c3 c4 c5 S.top ?_
  obtain ⟨mb, b1, b2⟩ := I.mod.blt
  refine PySem.W.ks_loadName_global I.ok.kind S.ks (Calls.loadGlobal_builtin (by rw [I.ok.glob]; exact I.mod.glob.keeps I.bk) S.mgs (by rw [I.ok.blt]; exact b1.keeps I.bk) ((b2 "super" (by decide)).trans bb_super) ⟨rfl, ?_⟩)
  refine wpAny_loadName_free I.ok.kind S.kc e1 ⟨_, KX _ _ e2, e3⟩ ?_
  rw [f5]
  refine ld_name I S.self S.vis hs (fun u r => ?_) (by decide)
  cases r
  refine ks_wpAny_isType_cls hD1 hD2 ⟨rfl, ?_⟩
  obtain ⟨hh, g, d, t, os⟩ := s
  refine ks_wpAny_call_super hD1 hD2 J.at_ J.cls (fun c e => ?_) (PySem.W.looks_mroIn KX S.sub) (fun h' e k => ?_)
  · have := J.no
    unfold PySem.W.notCls at this
    rw [e] at this
    exact Bool.noConfusion this
  · exact h _ _ (ClX.pin_new (t' := t) I k (Nat.le_refl _) e (fun v z => nomatch z))
theorem sup_method (S : SupC X D i) {pl : Sem Bool} {so : Addr} {Q : Value × List Value → Shared → Prop} (I : Inv X ((so, PySem.W.ks_superObj D x D) :: pins) σ H s) (hx : H x = some (.ins D dx fs)) (hm : PySem.W.ks_superIn X.K D D m = some (some (.ref f2))) (ht : PySem.W.typeIn X.K (.ref f2) = some (.type "function"))
    (hn : (m == ("__class__" : Str)) = false) (h : ∀ q s', X.base.get? q = none → q ≠ X.env.locals → Inv X ((q, PySem.W.methodObj (.ref f2) (.ref x)) :: pins) σ H s' → Q (.ref q, []) s') : wpAny (model X.prog X.w) X.A (getMethod (.ref so) m pl) Q X.xe s := by
  have KX := I.kIn
  have hso := ClX.pin_at I
  obtain ⟨mA, J, _⟩ := ins_get I.hok hx
  obtain ⟨od, J, _⟩ := J.look
  have I0 := ClX.unpin I
  obtain ⟨hh, g, d, t, os⟩ := s
  cases hc : PySem.W.clsIn X.K D with
  | none => unfold PySem.W.ks_superIn at hm; rw [hc] at hm; cases hm
  | some cd =>
    unfold PySem.W.ks_superIn at hm
    rw [hc] at hm
    obtain ⟨of, hof, hofc⟩ : ∃ of, hh.get? f2 = some of ∧ of.cls = .type "function" := by
      have ht' : (X.K.lookup f2).map (·.cls) = some (.type "function") := ht
      cases z : X.K.lookup f2 with
      | none => rw [z] at ht'; cases ht'
      | some of => rw [z] at ht'; exact ⟨of, KX _ _ z, Option.some.inj ht'⟩
    refine ks_wpAny_getMethod_super hso (PySem.W.looks_opaque KX S.thd) (l₀ := cd.mro) ?_ rfl KX hm hof hofc (PySem.W.ks_ne KX J hc) hn ?_
    · exact fun A Q E s k q => wpAny_bind ((PySem.W.looks_clsIn KX hc) A _ E s k (wpAny_pure q))
    · have I1 := ClX.pin_new (a := hh.objs.size) (o := PySem.W.methodObj (.ref f2) (.ref x)) (t' := t + 1) I0 (h' := hh.push (PySem.W.methodObj (.ref f2) (.ref x))) (fun b o e => Heap.get?_push_of_some _ e) (Nat.le_refl _) (Heap.get?_push_at rfl rfl) (fun v z => nomatch z)
      exact h _ _ (ClX.base_none I0 (Nat.le_refl _)) (I1.pin (hh.objs.size, PySem.W.methodObj (.ref f2) (.ref x)) (List.mem_append_right _ List.mem_cons_self)).2.2.1 I1
/-- super().m(e, ..), self an instance of the class at D, m's def at f2 -/
def tSup (i : Nat) (D : Addr) (sp : Sp) (t : TA) : TE := fun σ H Q => ∃ x dx fs, σ[i]? = some (some (.ref x)) ∧ H x = some (.ins D dx fs) ∧ t σ H fun vs H2 => sp (.ref x :: vs) H2 Q C8.E0
end
section
variable {X : Cx} {D f2 : Addr} {i k j : Nat} {body : List Stmt} {p0 p1 pos apos : Pos} {m : Str} {sp : Sp} {t tk : TA} {e : Expr} {es : List Expr} {kws : List Keyword} {ks : List Str} {n : Nat}
theorem peA_sup {pl : Sem Bool} (S : SupC X D i) (hm : PySem.W.ks_superIn X.K D D m = some (some (.ref f2))) (ht : PySem.W.typeIn X.K (.ref f2) = some (.type "function")) (hfn : PySem.W.fnIn X.K f2 = true) (F : FnR X.prog X.w X.K X.mg X.base C8.CX0 k f2 sp) (hr : Room j X.A) (hk : k ≤ j) (ha : PA X (e :: es) t)
    (hn : (m == ("__class__" : Str)) = false := by decide) (hst : starEach (e :: es) X.env = (false, eval e X.env) :: starEach es X.env := by rfl) (hpl : (backTo pos (starEach es X.env)).any (·.1) = false := by rfl)
    (he : eval (.Call (.Attribute (.Call (.Name "super" p0) [] [] p1) m apos) (e :: es) [] pos) X.env = (do
      let ov ← attributeBase (.Call (.Name "super" p0) [] [] p1) m X.env (eval (.Call (.Name "super" p0) [] [] p1) X.env)
      standAt apos.atName
      let (f, first) ← holding [ov] (getMethod ov m pl)
      callWith pos f first (backTo pos (starEach (e :: es) X.env)) []) := by rfl) :
    PEA X (.func body X.env) (.Call (.Attribute (.Call (.Name "super" p0) [] [] p1) m apos) (e :: es) [] pos) (tSup i D sp t) := by
  refine ⟨fun pins s σ H Q I h => ?_⟩
  obtain ⟨x, dx, fs, hs, hx, q⟩ := h
  refine ks_wpAt_MethodCall (pl := pl) (sup_base S I hs hx hn fun so s1 I1 => ?_) he
  refine sup_method S I1 hx hm ht hn fun qq s2 hb _ I2 => ?_
  refine ClX.callwith_cm I2 hb hfn (thn (ha.run pos _ s2 σ H _ I2 q) fun us s3 ⟨vs, H2, I3, rv, q2⟩ => ⟨⟨ClX.pin_at I3, I3.kIn⟩, ?_⟩) hst hpl
  exact ClX.run_cm F (hr.mono hk) C8.pass0 I3 rv q2
/-- super().m(e, .., k = v, ..) -/
def tSupK (i : Nat) (D : Addr) (n m : Nat) (sp : Sp) (t tk : TA) : TE := fun σ H Q => ∃ x dx fs, σ[i]? = some (some (.ref x)) ∧ H x = some (.ins D dx fs) ∧ t σ H fun vs H1 => tk σ H1 fun zs H2 => vs.length = n ∧ zs.length = m ∧ sp ((.ref x :: vs) ++ zs) H2 Q C8.E0
/-- a def at f2 called with n positional values and the keywords ks -/
structure CalK (P : Program) (w : World) (K : PySem.W.Frag) (mg : Str → Option Value) (base : Heap) (k : Nat) (f : Addr) (n : Nat) (ks : List Str) (sp : Sp) : Prop where
  ex : ∃ (fd : FuncData) (ps : List Str) (g : List Value → List Value → List Value), FnOk P w K mg base C8.CX0 k f fd ps sp ∧ KBn K fd ps n ks g (fun vs zs => vs ++ zs)
theorem peA_supK {pl : Sem Bool} (S : SupC X D i) (hm : PySem.W.ks_superIn X.K D D m = some (some (.ref f2))) (ht : PySem.W.typeIn X.K (.ref f2) = some (.type "function")) (hfn : PySem.W.fnIn X.K f2 = true) (C : CalK X.prog X.w X.K X.mg X.base k f2 (n + 1) ks sp) (hr : Room j X.A) (hk : k ≤ j) (ha : PA X (e :: es) t) (hkw : PK X kws tk)
    (hn : (m == ("__class__" : Str)) = false := by decide) (hst : starEach (e :: es) X.env = (false, eval e X.env) :: starEach es X.env := by rfl)
    (hall : (backToKw pos (keywordEach kws X.env)).all (·.1.isSome) = true := by rfl) (hks : (backToKw pos (keywordEach kws X.env)).filterMap (·.1) = ks := by rfl)
    (hpl : ((backTo pos (starEach (e :: es) X.env)).any (·.1) || (backToKw pos (keywordEach kws X.env)).any (·.1.isNone)) = false := by rfl)
    (he : eval (.Call (.Attribute (.Call (.Name "super" p0) [] [] p1) m apos) (e :: es) kws pos) X.env = (do
      let ov ← attributeBase (.Call (.Name "super" p0) [] [] p1) m X.env (eval (.Call (.Name "super" p0) [] [] p1) X.env)
      standAt apos.atName
      let (f, first) ← holding [ov] (getMethod ov m pl)
      callWith pos f first (backTo pos (starEach (e :: es) X.env)) (backToKw pos (keywordEach kws X.env))) := by rfl) :
    PEA X (.func body X.env) (.Call (.Attribute (.Call (.Name "super" p0) [] [] p1) m apos) (e :: es) kws pos) (tSupK i D n ks.length sp t tk) := by
  refine ⟨fun pins s σ H Q I h => ?_⟩
  obtain ⟨x, dx, fs, hs, hx, q⟩ := h
  obtain ⟨fd, ps, g, F, hb⟩ := C.ex
  rw [he]
  refine PySem.wpAt_bind (thnA (sup_base S I hs hx hn fun so s1 I1 => ?_) fun ov s1 h1 => h1)
  refine PySem.wpAt_of_wpAny (wpAny_bind (wpAny_standAt (wpAny_bind (wpAny_holding (thn (sup_method (Q := fun fx s' => wpAny (model X.prog X.w) X.A (callWith pos fx.1 fx.2 (backTo pos (starEach (e :: es) X.env)) (backToKw pos (keywordEach kws X.env))) (EP X pins σ Q) X.xe s') S I1 hx hm ht hn fun qq s2 hbase hloc I2 => ?_) fun fx s2 h2 => h2)))))
  refine PySem.W.callWith_of (P := PySem.W.MethP X.K qq f2 (.ref x)) hpl (PySem.W.keeps_M hfn) ?_
  refine PyProof.Rows.evalArgs_kw2 hall ?_ hst
  refine thn (ha.run pos _ s2 σ H _ I2 q) fun us s3 ⟨vs, H2, I3, rv, q2⟩ => ?_
  refine thn (hkw.run pos _ s3 σ H2 _ I3 q2) fun ws s4 ⟨zs, H3, I4, rz, l1, l2, q3⟩ => ⟨⟨ClX.pin_at I4, I4.kIn⟩, ?_⟩
  rw [hks]
  have r1 : Vals (V.ref x :: vs) (Value.ref x :: us) := .cons rfl rv
  have r2 := hb.rel r1 rz
  have n1 : (Value.ref x :: us).length = n + 1 := by rw [List.length_cons, ← rv.length, l1]
  refine wpAny_call (PySem.W.method_call (ClX.pin_at I4) (codeAny_mono (F.run X.A X.stack s4 H3 ⟨Value.ref x :: us, ks.zip ws⟩ (g (Value.ref x :: us) ws) _ Q C8.E0 (hr.mono hk) I4.env0 (hb.to _ (Value.ref x :: us) ws I4.kIn n1 (rz.length.symm.trans l2)) r2 q3) fun r s' hq => ?_))
  cases r with
  | error e => exact C8.pass0 (E := C8.E0) pins σ H3 s4 e s' (ClX.unpin I4) hq
  | ok fl =>
    cases fl with
    | ret u => exact (ClX.unpin I4).after hq
    | next => exact False.elim hq
    | brk => exact False.elim hq
    | cont => exact False.elim hq
end
/-! ### THE RULE for such a method -/
structure DfS (P : Program) (K : PySem.W.Frag) (f : Addr) (m qual : Str) (params : Arguments) (body : List Stmt) (scope : Scope) (dV : Value) (D : Addr) (fd : FuncData) : Prop where
  ex : ∃ (oc : Value) (od : Option Addr) (kV doc pm : Value) (an : Option Addr) (cda : Addr) (ct : Value) (osl : Array (Option Value)) (cc : Addr) (cl : Value) (cld : Option Addr) (csl : Array (Option Value)) (ccl : Value) (cdd : Option Addr) (vs : Array Value) (ccs : Array (Option Value)) (file : Str) (tf : Tok) (ar : Arg),
    fd = PySem.W.fnX m qual params body scope [("__class__", cc)] dV kV doc pm an (.ref cda) ct ∧ K.lookup f = some ⟨oc, od, .func fd, osl⟩ ∧ PySem.W.codeIn K (.ref cda) qual = true ∧ K.lookup cc = some ⟨cl, cld, .cell (some (.ref D)), csl⟩ ∧
    K.lookup cda = some ⟨ccl, cdd, .fields vs, ccs⟩ ∧ vs[2]? = some (.str file tf) ∧ ((P.main.file : Str) == file) = true ∧ (params.posonlyargs ++ params.args).head? = some ar ∧ ar.arg = "self"
  sub : PySem.W.mroIn K D (.ref D) = some true
  cls : PySem.W.isClsIn K D = true
  thd : PySem.W.nsIn K cStatics "thirdparty.any" = some none
  top : (P.main.scope.names.lookup ("super" : Str)).isSome = false
section
variable {P : Program} {w : World} {K : PySem.W.Frag} {mg : Str → Option Value} {base : Heap} {N ps : List Str} {m qual : Str} {params : Arguments} {body : List Stmt} {scope : Scope} {dV : Value} {f D : Addr} {fd : FuncData} {k i : Nat} {sp : Sp}
theorem fn_ofS (F : DfS P K f m qual params body scope dV D fd) (S : SScope N ps scope) (hnd : ∀ q, (("__class__" : Str), q) ∈ scope.names → q = NameKind.free) (hN : N[i]? = some "self") (hv : Vis scope "self") (ms : mg "super" = none) (len : ∀ vs H Q E, sp vs H Q E → vs.length = ps.length)
    (hbody : ∀ (cc : Addr) (cdv : Value) (A : Around) (outer : List Env) (s : Shared) (H : Hp) (vs : List V) (Q : VK) (E : XK), Room k (A.deeper (envS qual scope s.heap.objs.size f cdv cc)) → SupC (cxS P w K mg base N qual scope f cdv cc A outer s H) D i → sp vs H Q E →
      ∃ t, PSsA (cxS P w K mg base N qual scope f cdv cc A outer s H) (.func body (envS qual scope s.heap.objs.size f cdv cc)) body t ∧ t { nx := fun _ H' => Q .non H', rt := Q } (L2.start N vs) H) :
    FnOk P w K mg base C8.CX0 (k + 1) f fd ps sp := by
  obtain ⟨oc, od, kV, doc, pm, an, cda, ct, osl, cc, cl, cld, csl, ccl, cdd, vs0, ccs, file, tf, ar, rfl, h2, h3, h4, h5, h6, h7, h8, h9⟩ := F.ex
  refine ⟨len, fun A outer s H args us vs Q E hr e0 hb r hsp => ?_⟩
  have hl := len _ _ _ _ hsp
  have KX : K.In s.heap := e0.mod.kin.keeps fun b o e => (e0.bs b o e).1
  have lim : s.heap.NoLimit := e0.mod.nolimit.keeps fun b o e => (e0.bs b o e).1
  have hkind : ∀ y ∈ ps.zip us, scope.names.lookup y.1 = some .local ∨ (scope.names.lookup y.1 = some .cell ∧ ((cellsFrom (s.heap.objs.size + 1) scope.names []).lookup y.1).isSome = true) := fun ⟨n, v⟩ hy => by
    rcases S.par n (List.of_mem_zip hy).1 with q | q
    · exact .inl q
    · exact .inr ⟨q, PySem.W.cellsFrom_some _ _ _ (.inl q)⟩
  have SC : SupC (cxS P w K mg base N qual scope f (.ref cda) cc A outer s H) D i := by
    refine ⟨S.sup, S.ncl, ⟨f, _, _, ar, rfl, h2, rfl, h8, h9⟩, ⟨cda, _, vs0, file, tf, rfl, h5, rfl, h6, h7⟩, F.top, ⟨cc, _, ?_, h4, rfl⟩, F.sub, F.cls, ms, hN, hv, F.thd⟩
    show (cellsFrom (s.heap.objs.size + 1) scope.names [] ++ [(("__class__" : Str), cc)]).lookup _ = _
    rw [List.lookup_append]
    cases e : (cellsFrom (s.heap.objs.size + 1) scope.names []).lookup ("__class__" : Str) with
    | some d =>
      rcases cell_names (PySem.mem_of_lookup e) with h | h
      · cases hnd _ h
      · cases h
    | none => rfl
  refine codeAny_call_function hr.depth (KX _ _ h2) rfl S.co S.gen rfl (PySem.W.codeRec_of KX h3) (hb _ _ _ _ ?_)
  refine newEnvS S.kind hkind fun env he s1 x => ?_
  subst he
  refine ⟨lim.keeps x.toInCall.keep, ks_codeAny_funcAt ?_⟩
  obtain ⟨t, ht, hq⟩ := hbody cc (.ref cda) A outer s H vs Q E (hr.deeper _) SC hsp
  have hccb : base.get? cc = some _ := e0.mod.kin _ _ h4
  have I : Inv (cxS P w K mg base N qual scope f (.ref cda) cc A outer s H) [] (L2.start N vs) H s1 := inv_startS S hnd hr.hd e0 hl r (e0.bs _ _ hccb).2 ⟨_, _, KX _ _ h4, rfl⟩ x
  refine PySem.wpAt_mono (ht.run [] s1 (L2.start N vs) H _ I hq) (fun fl s' hs => ?_) fun e s' hs => hs.elim
  have fin : ∀ {σ' : L2.St} {H' : Hp} {v : V} {u : Value}, Inv (cxS P w K mg base N qual scope f (.ref cda) cc A outer s H) [] σ' H' s' → RelV v u → Q v H' → CE outer P w H s Q u s' :=
    fun {σ' H' v u} J rv q => ⟨v, H', J.os, J.bare, J.base, J.hok, rv, q⟩
  cases fl with
  | ret u =>
    obtain ⟨v, σ', H', J, rv, q⟩ := hs
    exact fin J rv q
  | next =>
    obtain ⟨σ', H', J, q⟩ := hs
    exact fin (v := V.non) (u := Value.none) J rfl q
  | brk =>
    obtain ⟨_, _, _, q⟩ := hs
    exact False.elim q
  | cont =>
    obtain ⟨_, _, _, q⟩ := hs
    exact False.elim q
end
end Sky

set_option Elab.async false
set_option linter.all false
set_option maxRecDepth 100000
set_option maxHeartbeats 4000000
/-! Trips: the item, Trip's defs. -/
namespace Sky
open PySem PySem.Spec PyProof.Rows L2
/-! ### defs at an address -/
structure DfF (K : PySem.W.Frag) (f : Addr) (m qual : Str) (st : Stmt) (ps : List Str) : Prop where
  ex : ∃ (oc : Value) (od : Option Addr) (kV doc pm : Value) (an : Option Addr) (cdv ct : Value) (osl : Array (Option Value)),
    K.lookup f = some ⟨oc, od, .func (PySem.W.fnOf m qual (defArgs st) (defBody st) (defScope st) .none kV doc pm an cdv ct), osl⟩ ∧ PySem.W.codeIn K cdv qual = true ∧
    Binds K (PySem.W.fnOf m qual (defArgs st) (defBody st) (defScope st) .none kV doc pm an cdv ct) ps []
structure FnB (P : Program) (w : World) (K : PySem.W.Frag) (mg : Str → Option Value) (base : Heap) (k : Nat) (f : Addr) (sp : Sp) : Prop where
  ex : ∃ (fd : FuncData) (ps : List Str), FnOk P w K mg base C8.CX0 k f fd ps sp ∧ Binds K fd ps []
section
variable {P : Program} {w : World} {K : PySem.W.Frag} {mg : Str → Option Value} {base : Heap}
theorem DfF.fnb {f : Addr} {m qual : Str} {st : Stmt} {ps N : List Str} {k : Nat} {sp : Sp} (F : DfF K f m qual st ps) (S : FnScope N ps (defScope st)) (len : ∀ vs H Q E, sp vs H Q E → vs.length = ps.length)
    (hbody : ∀ (f : Addr) (cdv : Value) (A : Around) (outer : List Env) (s : Shared) (H : Hp) (vs : List V) (Q : VK) (E : XK), Room k (A.deeper (envOfC qual (defScope st) s.heap.objs.size f cdv)) → sp vs H Q E →
      ∃ t, PSs (bodyCx P w K mg base N qual st f cdv A outer s H E) (defBody st) t ∧ t { nx := fun _ H' => Q .non H', rt := Q } (start N vs) H) : FnB P w K mg base (k + 1) f sp := by
  obtain ⟨oc, od, kV, doc, pm, an, cdv, ct, osl, h2, h3, h5⟩ := F.ex
  refine ⟨_, ps, fn_of h2 h3 S len fun A outer s H vs Q E hr hsp => ?_, h5⟩
  obtain ⟨t, h, q⟩ := hbody f cdv A outer s H vs Q E hr hsp
  exact ⟨t, h.nox, q⟩
theorem FnB.met {C f : Addr} {m : Str} {k : Nat} {sp : Sp} (F : FnB P w K mg base k f sp) (c : Cls K C) (h : Meth K C m f) : C8.Met P w K mg base k C m sp [] := by
  obtain ⟨fd, ps, h1, h2⟩ := F.ex
  exact ⟨f, fd, ps, [], c, h, h1, h2, .nil⟩
theorem FnB.raw {f : Addr} {k : Nat} {sp : Sp} (F : FnB P w K mg base k f sp) : FnR P w K mg base C8.CX0 k f sp := by
  obtain ⟨fd, ps, h1, h2⟩ := F.ex
  have := h1.raw h2 .nil
  simpa using this
theorem okN {f : Addr} {fd : FuncData} {m qual : Str} {st : Stmt} {dvs : List V} {kws : List (Str × V)} {ps N : List Str} {k : Nat} {sp : Sp} (F : FunD K m qual (defArgs st) (defBody st) (defScope st) dvs kws f fd) (S : FnScope N ps (defScope st)) (len : ∀ vs H Q E, sp vs H Q E → vs.length = ps.length)
    (hbody : ∀ (f : Addr) (cdv : Value) (A : Around) (outer : List Env) (s : Shared) (H : Hp) (vs : List V) (Q : VK) (E : XK), Room k (A.deeper (envOfC qual (defScope st) s.heap.objs.size f cdv)) → sp vs H Q E →
      ∃ t, PSs (bodyCx P w K mg base N qual st f cdv A outer s H E) (defBody st) t ∧ t { nx := fun _ H' => Q .non H', rt := Q } (start N vs) H) : FnOk P w K mg base C8.CX0 (k + 1) f fd ps sp := by
  refine F.ok S len fun cdv A outer s H vs Q E hr hsp => ?_
  obtain ⟨t, h, q⟩ := hbody f cdv A outer s H vs Q E hr hsp
  exact ⟨t, h.nox, q⟩
end
theorem ea_star1 {K : PySem.W.Frag} {σ : L2.St} {H : Hp} {te : TE} {ds : List PyData} (h : EvD te σ H (.list ds)) : EvA (StX.tStar K te tNil) σ H (ds.map dt) := by
  have := ea_starL (K := K) (es := []) h ea_nil
  rw [List.append_nil] at this
  exact this
theorem hnd_by {l : List (Str × NameKind)} {x : Str} (h : (l.all fun y => !(y.1 == x) || y.2 == .free) = true) : ∀ q, (x, q) ∈ l → q = NameKind.free := fun q hq => by
  have := List.all_eq_true.mp h _ hq
  simpa using this

/-! ### trips -/
structure Tr where
  s : Sea
  a : Cell
  b : Cell
  e : Int
  l : Int
  ban : Option (List Place)
structure TrOk (t : Tr) : Prop where
  sea : SeaOk t.s
  a : t.a ∈ cells t.s
  b : t.b ∈ cells t.s
  e0 : 0 ≤ t.e
  el : t.e ≤ t.l
  ll : t.l ≤ t.s.last
def trFs (c st gl : V) (t : Tr) : List (Str × V) := [("chart", c), ("start", st), ("goal", gl), ("first", .int t.e), ("last", .int t.l)]
def TripFs (W : Wd) (t : Tr) (c st gl : V) (B : Hp) : Prop := (chI W t.s).P c B ∧ Rp B st (dC t.a) ∧ Rp B gl (dC t.b)
theorem TripFs.mono {W : Wd} {t : Tr} {c st gl : V} {B B' : Hp} (s : Same B B') (h : TripFs W t c st gl B) : TripFs W t c st gl B' := ⟨(chI W t.s).mono s h.1, Rp.mono (Sd.of s) h.2.1, Rp.mono (Sd.of s) h.2.2⟩
def BarOk (kvs : List (List Key × V)) (ps : List Place) : Prop := ∀ p : Place, (valV kvs (kP p)).isSome = decide (p ∈ ps)
def trI (W : Wd) (t : Tr) : Item := ⟨fun v H => ∃ x dx c st gl, v = .ref x ∧ TripFs W t c st gl H ∧ ((t.ban = none ∧ H x = some (.ins W.ct dx (trFs c st gl t))) ∨
    ∃ ps dd kvs, t.ban = some ps ∧ H x = some (.ins W.cg dx (trFs c st gl t ++ [(("_barred" : Str), V.ref dd)])) ∧ H dd = some (.dT kvs) ∧ BarOk kvs ps),
  fun s ⟨x, dx, c, st, gl, e, h, q⟩ => ⟨x, dx, c, st, gl, e, h.mono s, q.elim (fun ⟨a, b⟩ => .inl ⟨a, s _ _ b⟩) fun ⟨ps, dd, kvs, a, b, d, g⟩ => .inr ⟨ps, dd, kvs, a, s _ _ b, s _ _ d, g⟩⟩⟩
section
variable {K : PySem.W.Frag} {mg : Str → Option Value} {W : Wd} {σ : L2.St} {H : Hp} {ta : TE} {t : Tr} {J : Item} {f : Str} {u : V}
theorem ev_tr (Z : Kc K mg W) (h : Ev ta σ H (trI W t)) (hf : f ∈ tripFields) (k : ∀ (c st gl : V) (A : Hp) (rest : List (Str × V)), TripFs W t c st gl A → ∃ u, (trFs c st gl t ++ rest).lookup f = some u ∧ J.P u A) : Ev (tFld K ta f) σ H J :=
  ev_fld h fun v A ⟨x, dx, c, st, gl, e, q, r⟩ => by
    rcases r with ⟨r1, r2⟩ | ⟨ps, dd, kvs, r1, r2, r3, r4⟩
    · obtain ⟨u, h1, h2⟩ := k c st gl A [] q
      rw [List.append_nil] at h1
      exact ⟨x, W.ct, dx, _, u, e, r2, Z.clsT, Z.noT _ hf, h1, h2⟩
    · obtain ⟨u, h1, h2⟩ := k c st gl A _ q
      exact ⟨x, W.cg, dx, _, u, e, r2, Z.clsG, Z.noG _ hf, h1, h2⟩
theorem ev_trChart (Z : Kc K mg W) (h : Ev ta σ H (trI W t)) : Ev (tFld K ta "chart") σ H (chI W t.s) := ev_tr Z h (by decide) fun c st gl A r q => ⟨c, rfl, q.1⟩
theorem ev_trStart (Z : Kc K mg W) (h : Ev ta σ H (trI W t)) : EvD (tFld K ta "start") σ H (dC t.a) := ev_tr Z h (by decide) fun c st gl A r q => ⟨st, rfl, q.2.1⟩
theorem ev_trGoal (Z : Kc K mg W) (h : Ev ta σ H (trI W t)) : EvD (tFld K ta "goal") σ H (dC t.b) := ev_tr Z h (by decide) fun c st gl A r q => ⟨gl, rfl, q.2.2⟩
theorem ev_trFirst (Z : Kc K mg W) (h : Ev ta σ H (trI W t)) : EvD (tFld K ta "first") σ H (.int t.e) := ev_tr Z h (by decide) fun c st gl A r q => ⟨_, rfl, .int _⟩
theorem ev_trLast (Z : Kc K mg W) (h : Ev ta σ H (trI W t)) : EvD (tFld K ta "last") σ H (.int t.l) := ev_tr Z h (by decide) fun c st gl A r q => ⟨_, rfl, .int _⟩
end
def startP (t : Tr) : Place := (t.e, t.a.1, t.a.2)
def goalP (t : Tr) : Place := (t.l, t.b.1, t.b.2)
section
variable {P : Program} {w : World} {K : PySem.W.Frag} {mg : Str → Option Value} {base : Heap} {W : Wd}
abbrev spStart (W : Wd) : Sp := SpF (fun t : Tr => [trI W t]) (fun _ => True) fun t => dt (dP (startP t))
theorem sc_start_place : FnScope ["trip"] ["trip"] (defScope s_start_place) := C8.fnScope_by (by decide +kernel)
theorem ok_start_place (T : Bt mg) (Z : Kc K mg W) (F : Dfn K mg "start_place" s_start_place ["trip"]) : C8.Cal P w K mg base 1 "start_place" (spStart W) [] := by
  have sc := sc_start_place
  refine F.cal sc (SpF.len fun _ => rfl) fun f cdv A outer s H vs Q E hr hsp => ?_
  refine ⟨_, (pss_one (ps_ret (pe_tup (pa_cons (pe_fld (pv 0) rfl) (StX.pa_star (pe_fld (pv 0) rfl) pa_nil))))), ?_⟩
  obtain ⟨x, B, hp, s0, ha, q⟩ := hsp
  dsimp only at hp ha q
  obtain ⟨v1, rfl, h1⟩ := ita1 ha
  exact s_ret (ev_tup (ds := [.int x.e, .int x.a.1, .int x.a.2]) (ea_cons (ev_trFirst Z (ev_var h1)) (ea_starT (ds := [.int x.a.1, .int x.a.2]) (es := []) (ev_trStart Z (ev_var h1)) ea_nil)) (by show 3 ≤ 100000; decide)) s0 q
abbrev spGoal (W : Wd) : Sp := SpF (fun t : Tr => [trI W t]) (fun _ => True) fun t => dt (dP (goalP t))
theorem sc_goal_place : FnScope ["trip"] ["trip"] (defScope s_goal_place) := C8.fnScope_by (by decide +kernel)
theorem ok_goal_place (T : Bt mg) (Z : Kc K mg W) (F : Dfn K mg "goal_place" s_goal_place ["trip"]) : C8.Cal P w K mg base 1 "goal_place" (spGoal W) [] := by
  have sc := sc_goal_place
  refine F.cal sc (SpF.len fun _ => rfl) fun f cdv A outer s H vs Q E hr hsp => ?_
  refine ⟨_, (pss_one (ps_ret (pe_tup (pa_cons (pe_fld (pv 0) rfl) (StX.pa_star (pe_fld (pv 0) rfl) pa_nil))))), ?_⟩
  obtain ⟨x, B, hp, s0, ha, q⟩ := hsp
  dsimp only at hp ha q
  obtain ⟨v1, rfl, h1⟩ := ita1 ha
  exact s_ret (ev_tup (ds := [.int x.l, .int x.b.1, .int x.b.2]) (ea_cons (ev_trLast Z (ev_var h1)) (ea_starT (ds := [.int x.b.1, .int x.b.2]) (es := []) (ev_trGoal Z (ev_var h1)) ea_nil)) (by show 3 ≤ 100000; decide)) s0 q
def dHour : PyData → Int
  | .tuple (.int a :: _) => a
  | _ => 0
def mayB (t : Tr) (d : PyData) : Bool := inCh t.s d && (decide (t.e ≤ dHour d) && decide (dHour d ≤ t.l))
theorem inCh_of {s : Sea} {d : PyData} (h : inCh s d = true) : ∃ p : Place, d = dP p ∧ p ∈ spots s := by
  unfold inCh at h
  split at h
  · rename_i a b c
    exact ⟨(a, b, c), rfl, of_decide_eq_true h⟩
  · cases h
abbrev spMayT (W : Wd) : Sp := SpF (fun x : Tr × PyData => [trI W x.1, dt x.2]) (fun x => TrOk x.1) fun x => dt (.bool (mayB x.1 x.2))
theorem sc_Trip_may_be : FnScope ["self", "place"] ["self", "place"] (defScope s_Trip_may_be) := C8.fnScope_by (by decide +kernel)
theorem ok_Trip_may_be {f0 : Addr} (T : Bt mg) (Z : Kc K mg W) (mcontains : C8.Met P w K mg base 4 W.cc "__contains__" (spContains W) []) (F : DfF K f0 "may_be" "Trip.may_be" s_Trip_may_be ["self", "place"]) : FnB P w K mg base 5 f0 (spMayT W) := by
  have sc := sc_Trip_may_be
  refine F.fnb sc (SpF.len fun _ => rfl) fun f cdv A outer s H vs Q E hr hsp => ?_
  refine ⟨_, (pss_one (ps_ret (pe_and (pe_cmpR (op_inOwn mcontains hr (by decide)) (pv 1) (pe_fld (pv 0) rfl) (by rfl)) (pe_one (pe_chain op_le op_le (pe_fld (pv 0) rfl) (pe_ix ix_tup (pv 1) pe_int (fun _ _ => rfl)) (pe_fld (pv 0) rfl)))))), ?_⟩
  obtain ⟨⟨t, d⟩, B, hp, s0, ha, q⟩ := hsp
  dsimp only at hp ha q
  obtain ⟨v1, v2, rfl, h1, h2⟩ := ita2 ha
  refine s_ret (ev_and (ev_op (ev_var h2) (ev_trChart Z (ev_var h1)) (rv_in (bb := fun x : Sea × PyData => inCh x.1 x.2) (t.s, d) (fun _ => rfl) chI.obj rfl hp.sea)) fun e => ?_) s0 q
  obtain ⟨p, rfl, _⟩ := inCh_of e
  exact ev_chain (ev_trFirst Z (ev_var h1)) (ev_op (ev_var h2) ev_int (rv_ixT rfl)) fun _ => ev_trLast Z (ev_var h1)
def sortC (cs : List Cell) : List Cell := cs.mergeSort fun a b => PySem.W.dataLe false id (dC a) (dC b)
theorem sortC_eq (cs : List Cell) : (sortC cs).map dC = sortD (cs.map dC) := PySem.W.sort_maps (r := fun a b => PySem.W.dataLe false id (dC a) (dC b)) (s := PySem.W.dataLe false id) dC fun a _ b _ => rfl
theorem sortC_len (cs : List Cell) : (sortC cs).length = cs.length := (List.mergeSort_perm _ _).length_eq
def nextT (t : Tr) (p : Place) : List Place := if p.1 = t.l then [] else (sortC (p.2 :: nbrs t.s p.2)).map fun c => (p.1 + 1, c.1, c.2)
theorem nbrs_len (s : Sea) (c : Cell) : (nbrs s c).length ≤ 4 := List.length_filter_le _ _
abbrev spNextT (W : Wd) : Sp := SpF (fun x : Tr × Place => [trI W x.1, dt (dP x.2)]) (fun x => TrOk x.1 ∧ x.2 ∈ spots x.1.s ∧ x.1.e ≤ x.2.1 ∧ x.2.1 ≤ x.1.l) fun x => dt (dPs (nextT x.1 x.2))
theorem sc_Trip_next_places : FnScope ["self", "place", "cell", "cells", "row", "column"] ["self", "place"] (defScope s_Trip_next_places) := C8.fnScope_by (by decide +kernel)
theorem ok_Trip_next_places {f0 : Addr} (T : Bt mg) (Z : Kc K mg W) (mcontains : C8.Met P w K mg base 4 W.cc "__contains__" (spContains W) []) (mneighbours : C8.Met P w K mg base 4 W.cc "neighbours" (spNeighbours W) []) (F : DfF K f0 "next_places" "Trip.next_places" s_Trip_next_places ["self", "place"]) : FnB P w K mg base 5 f0 (spNextT W) := by
  have sc := sc_Trip_next_places
  refine F.fnb sc (SpF.len fun _ => rfl) fun f cdv A outer s H vs Q E hr hsp => ?_
  refine ⟨_, (pss_cons (ps_if (PW.pt (pw_or (pt_cmpR (op_niOwn mcontains hr (by decide)) (pv 1) (pe_fld (pv 0) rfl) (by rfl)) (pw_or1 (pt_not (pt_chain op_le op_le (pe_fld (pv 0) rfl) (pe_ix ix_tup (pv 1) pe_int (fun _ _ => rfl)) (pe_fld (pv 0) rfl)))))) (pss_one ps_never) pss_nil)
    (pss_cons (ps_if (pt_cmpR op_eq (pe_ix ix_tup (pv 1) pe_int (fun _ _ => rfl)) (pe_fld (pv 0) rfl) (nomark _)) (pss_one (ps_ret (pe_lst pa_nil))) pss_nil)
    (pss_cons (ps_set (i := 2) sc.nd rfl (by first | exact Or.inl rfl | exact Or.inr rfl) (pe_tup (pa_cons (pe_ix ix_tup (pv 1) pe_int (fun _ _ => rfl)) (pa_cons (pe_ix ix_tup (pv 1) pe_int (fun _ _ => rfl)) pa_nil))))
    (pss_cons (ps_set (i := 3) sc.nd rfl (by first | exact Or.inl rfl | exact Or.inr rfl) (pe_callB (cr_sortedD (hud hr)) (by rfl) T.n_sorted bb_sorted (pa_cons (pe_lst (pa_cons (pv 2) (StX.pa_star (C8.pe_mt mneighbours hr (by decide) (pe_fld (pv 0) rfl) (pa_cons (pv 2) pa_nil)) pa_nil))) pa_nil)))
    (pss_one (ps_ret (pe_lc (own := [("row", 4), ("column", 5)]) rfl sc.nd (pi_list (pv 3)) (blkOk_by (own := [("row", 4), ("column", 5)]) (N := ["self", "place", "cell", "cells", "row", "column"]) (sc := defScope s_Trip_next_places) (by decide +kernel)) (fun _ _ _ _ _ => (pg_tupK (n := 2) K rfl rfl (pgs_cons (pg_name (i := 4) sc.nd rfl (by first | exact Or.inl rfl | exact Or.inr rfl)) (pgs_cons (pg_name (i := 5) sc.nd rfl (by first | exact Or.inl rfl | exact Or.inr rfl)) pgs_nil)) rfl rfl)) (fun _ _ _ _ _ => pts_nil) (fun _ _ _ _ _ => (pe_tup (pa_cons (pe_op op_add (pe_ix (ix_tupK K rfl) (pv 1) pe_int (fun _ _ => rfl)) pe_int) (pa_cons (pv 4) (pa_cons (pv 5) pa_nil)))))))))))), ?_⟩
  obtain ⟨⟨t, p⟩, B, hp, s0, ha, q⟩ := hsp
  dsimp only at hp ha q
  obtain ⟨v1, v2, rfl, h1, h2⟩ := ita2 ha
  obtain ⟨ok, hsp', he, hl⟩ := hp
  refine s_ifN (et_or (b := false) (c := false) ((et_test (ev_op (ev_var h2) (ev_trChart Z (ev_var h1)) (rv_ni (bb := fun x : Sea × PyData => inCh x.1 x.2) (t.s, dP p) (fun _ => rfl) chI.obj rfl ok.sea))).is ?_) fun _ => (et_not (et_test (ev_chain (ev_trFirst Z (ev_var h1)) (ev_op (ev_var h2) (ev_int (i := 0)) (rv_ixT rfl)) fun _ => ev_trLast Z (ev_var h1)))).is ?_) s0 fun B1 H1 g1 => ?_
  · show (!decide (p ∈ spots t.s)) = false
    rw [decide_eq_true hsp']
    rfl
  · show (!(decide (t.e ≤ p.1) && decide (p.1 ≤ t.l))) = false
    rw [decide_eq_true he, decide_eq_true hl]
    rfl
  · have r1 := (trI W t).mono g1.base h1
    have r2 : Rp B1 v2 (dP p) := Rp.mono (Sd.of g1.base) h2
    refine s_if1 (b := decide (p.1 = t.l)) (et_test (ev_eqI (ev_op (ev_var r2) (ev_int (i := 0)) (rv_ixT rfl)) (ev_trLast Z (ev_var r1)))) g1.sub (fun e B2 H2 g2 => ?_) fun e B2 H2 g2 => ?_
    · refine s_retq (ev_lst (ds := []) ea_nil (by decide)) g2.sub fun v B3 H3 g3 p3 => q v B3 H3 ((g1.trans g2).trans g3) ?_
      show Rp B3 v (dPs (nextT t p))
      rw [nextT, if_pos (of_decide_eq_true e)]
      exact p3
    · have r1 := (trI W t).mono g2.base r1
      have r2 : Rp B2 v2 (dP p) := Rp.mono (Sd.of g2.base) r2
      refine s_set (ev_tup (ds := [.int p.2.1, .int p.2.2]) (ea_cons (ev_op (ev_var r2) (ev_int (i := 1)) (rv_ixT rfl)) (ea_cons (ev_op (ev_var r2) (ev_int (i := 2)) (rv_ixT rfl)) ea_nil)) (by show 2 ≤ 100000; decide)) g2.sub fun v3 B3 H3 g3 p3 => ?_
      have p3 : Rp B3 v3 (dC p.2) := p3
      have r1 := (trI W t).mono g3.base r1
      have hc := (mem_spots.mp hsp').2.2
      have hn := nbrs_len t.s p.2
      refine s_set (ev_sorted (ds := (p.2 :: nbrs t.s p.2).map dC) (ev_lst (ds := (p.2 :: nbrs t.s p.2).map dC) (ea_cons (I := dt (dC p.2)) (ev_var p3) ?_) ?_) (alike_dC _) (sortable_dC _) ?_ ?_) g3.sub fun v4 B4 H4 g4 p4 => ?_
      · exact ea_star1 (ds := (nbrs t.s p.2).map dC) (ev_meth (t.s, p.2) (ev_trChart Z (ev_var r1)) (chI.ins (by decide)) (ea1 (ev_var (I := dt (dC p.2)) p3)) rfl ⟨ok.sea, hc⟩)
      · rw [List.length_map, List.length_cons]
        omega
      · rw [List.length_map, List.length_cons]
        omega
      · intro d hd
        obtain ⟨c, _, rfl⟩ := List.mem_map.mp hd
        exact Nat.le_trans (dep_dC c) (by decide)
      · rw [← sortC_eq] at p4
        have r2 : Rp B4 v2 (dP p) := Rp.mono (Sd.of (g3.base.trans g4.base)) r2
        refine s_ret ((ev_lcL (fun d => match d with
          | .tuple [.int a, .int b] => some (dP (p.1 + 1, a, b))
          | _ => none) (wk_list (ev_var (I := dt (.list ((sortC (p.2 :: nbrs t.s p.2)).map dC))) p4)) ?_ fun d y B5 hd s5 p5 => ?_).is ?_) g4.sub fun v B5 H5 g5 p => q v B5 H5 ((((g1.trans g2).trans g3).trans g4).trans g5) p
        · rw [List.length_map, sortC_len, List.length_cons]
          omega
        · obtain ⟨c, hc', rfl⟩ := List.mem_map.mp hd
          have r2 : Rp B5 v2 (dP p) := Rp.mono (Sd.of s5) r2
          obtain ⟨ad, xs, rfl, ex, rx⟩ := Rp.tup_eq p5
          cases rx with
          | cons x1 rx => cases rx with
          | cons x2 rx =>
            cases rx
            rw [Rp.int_eq x1, Rp.int_eq x2] at ex
            exact ⟨_, true, gt_tup ex rfl (gts_cons gt_name (gts_cons gt_name gts_nil)), rfl, et_yes, (fun z => nomatch z), fun _ => ⟨_, rfl, ev_tup (ds := [.int (p.1 + 1), .int c.1, .int c.2]) (ea_cons (ev_i (ev_op (ev_var (I := dt (dP p)) r2) (ev_int (i := 0)) (rv_ixT rfl)) ev_int) (ea_cons (ev_var (I := dt (.int c.1)) (.int _)) (ea_cons (ev_var (I := dt (.int c.2)) (.int _)) ea_nil))) (by show 3 ≤ 100000; decide)⟩⟩
        · rw [nextT, if_neg (of_decide_eq_false e), dPs, List.filterMap_map, List.map_map, ← List.filterMap_eq_map]
          rfl
end
end Sky

set_option Elab.async false
set_option linter.all false
set_option maxRecDepth 100000
set_option maxHeartbeats 4000000
/-! Trips made; GuardedTrip's defs. -/
namespace Sky
open PySem PySem.Spec PyProof.Rows L2
/-- Trip.__init__, on an owned instance of either class -/
def SpTI (W : Wd) : Sp := fun vs H Q _ => ∃ (t : Tr) (C : Addr) (B H0 Bk : Hp) (o dx : Addr) (ws : List V), (C = W.ct ∨ C = W.cg) ∧ TrOk t ∧ Own1 C B H0 o dx [] Bk H ∧ vs = .ref o :: ws ∧
  ItA Bk ws [chI W t.s, dt (dC t.a), dt (dC t.b), dt (.int t.e), dt (.int t.l)] ∧ ∀ B1 H1 c st gl, Same Bk B1 → Own1 C B H0 o dx (trFs c st gl t) B1 H1 → TripFs W t c st gl B1 → Q .non H1
theorem SpTI.len {W : Wd} : ∀ vs H Q E, SpTI W vs H Q E → vs.length = 6 := fun vs H Q E ⟨t, C, B, H0, Bk, o, dx, ws, _, _, _, e, a, _⟩ => by
  rw [e, List.length_cons, a.length]
  rfl
theorem mem_take_succ {α : Type} {ps : List α} {i : Nat} (l : i < ps.length) {p : α} : p ∈ ps.take (i + 1) ↔ p ∈ ps.take i ∨ p = ps[i] := by
  rw [List.take_succ, List.getElem?_eq_getElem l, List.mem_append]
  simp
theorem putK_len {kvs : List (List Key × V)} {k : List Key} {v : V} {n : Nat} (h : kvs.length ≤ n) : (putK kvs k v).length ≤ n + 1 := by
  unfold putK
  split
  · rw [List.length_map]
    omega
  · rw [List.length_append, List.length_singleton]
    omega
theorem putF_new {f : Str} {v : V} : ∀ {fs : List (Str × V)}, f ∉ fs.map Prod.fst → putF f v fs = fs ++ [(f, v)]
  | [], _ => rfl
  | (g, x) :: r, h => by
    rw [List.map_cons, List.mem_cons, not_or] at h
    have hg : ¬ g = f := fun z => h.1 z.symm
    show (if g = f then (g, v) :: r else (g, x) :: putF f v r) = _
    rw [if_neg hg, putF_new h.2]
    rfl
section
variable {P : Program} {w : World} {K : PySem.W.Frag} {mg : Str → Option Value} {base : Heap} {W : Wd}
theorem kb_trip {f : Addr} {fd : FuncData} (F : FunD K "__init__" "Trip.__init__" (defArgs s_Trip___init__) (defBody s_Trip___init__) (defScope s_Trip___init__) [] [("first", .int 0), ("last", .non)] f fd) :
    ∃ g : List Value → List Value → List Value, KBn K fd ["self", "chart", "start", "goal", "first", "last"] 4 ["first", "last"] g (fun vs zs => vs ++ zs) := by
  obtain ⟨mv, h⟩ := F.kbinds0 (ps := ["self", "chart", "start", "goal", "first", "last"]) 4 ["first", "last"] [] (fun us _ ws => us ++ ws) (by simp) (by simp) (fun a _ b => Vals.append a b) fun D doc pm an cdv ct us mv ws l1 l3 l4 => by
    match us, l1, mv, l3, ws, l4 with
    | [a, b, c, d], _, [], _, [e, g], _ => rfl
  exact ⟨_, h⟩
theorem sc_Trip___init__ : FnScope ["self", "chart", "start", "goal", "first", "last"] ["self", "chart", "start", "goal", "first", "last"] (defScope s_Trip___init__) := C8.fnScope_by (by decide +kernel)
theorem ok_Trip___init__ {f0 : Addr} {fd : FuncData} (T : Bt mg) (Z : Kc K mg W) (cis_number : C8.Cal P w K mg base 1 "is_number" spNumber []) (mdrag : C8.Met P w K mg base 4 W.cc "drag" (spDrag W) []) (F : FunD K "__init__" "Trip.__init__" (defArgs s_Trip___init__) (defBody s_Trip___init__) (defScope s_Trip___init__) [] [("first", .int 0), ("last", .non)] f0 fd) : FnOk P w K mg base C8.CX0 5 f0 fd ["self", "chart", "start", "goal", "first", "last"] (SpTI W) := by
  have sc := sc_Trip___init__
  refine okN F sc (fun vs H Q E h => SpTI.len (W := W) vs H Q E h) fun f cdv A outer s H vs Q E hr hsp => ?_
  refine ⟨_, (pss_cons (ps_expr (C8.pe_mt mdrag hr (by decide) (pv 1) (pa_cons (pv 2) pa_nil)))
    (pss_cons (ps_expr (C8.pe_mt mdrag hr (by decide) (pv 1) (pa_cons (pv 3) pa_nil)))
    (pss_cons (ps_if (pt_not (pt_val (C8.pe_c cis_number hr (by decide) (by rfl) (pa_cons (pv 4) (pa_cons pe_int (pa_cons (pe_fld (pv 1) rfl) pa_nil)))))) (pss_one ps_never) pss_nil)
    (pss_cons (ps_if (PW.pt (pw_and (pt_cmpR op_notN (pv 5) pe_non (nomark _)) (pw_and1 (pt_not (pt_val (C8.pe_c cis_number hr (by decide) (by rfl) (pa_cons (pv 5) (pa_cons (pv 4) (pa_cons (pe_fld (pv 1) rfl) pa_nil))))))))) (pss_one ps_never) pss_nil)
    (pss_cons (ps_fld (pv 0) (pv 1) rfl)
    (pss_cons (ps_fld (pv 0) (pv 2) rfl)
    (pss_cons (ps_fld (pv 0) (pv 3) rfl)
    (pss_cons (ps_fld (pv 0) (pv 4) rfl)
    (pss_one (ps_fld (pv 0) (pe_ifExp (pt_cmpR op_isN (pv 5) pe_non (nomark _)) (pe_fld (pv 1) rfl) (pv 5)) rfl)))))))))), ?_⟩
  obtain ⟨t, C, B, H0, Bk, o, dx, ws, hC, ok, w0, rfl, ha, q⟩ := hsp
  obtain ⟨v1, v2, v3, v4, v5, rfl, h1, h2, h3, h4, h5⟩ := ita5 ha
  have e4 : v4 = .int t.e := Rp.int_eq h4
  have e5 : v5 = .int t.l := Rp.int_eq h5
  subst e4 e5
  have cls : Cls K C := by
    rcases hC with e | e
    · rw [e]; exact Z.clsT
    · rw [e]; exact Z.clsG
  have noA : ∀ f ∈ tripFields, NoAttr K C f := by
    rcases hC with e | e
    · rw [e]; exact Z.noT
    · rw [e]; exact Z.noG
  have t1 := ok.e0
  have t2 := ok.el
  have t3 := ok.ll
  refine s_drop (ev_meth (t.s, t.a) (ev_var h1) (chI.ins (by decide)) (ea1 (ev_var h2)) rfl ⟨ok.sea, ok.a⟩) w0.g.sub fun v B1 H1 g1 _ => ?_
  have h1 := (chI W t.s).mono g1.base h1
  have h2 : Rp B1 v2 (dC t.a) := Rp.mono (Sd.of g1.base) h2
  have h3 : Rp B1 v3 (dC t.b) := Rp.mono (Sd.of g1.base) h3
  refine s_drop (ev_meth (t.s, t.b) (ev_var h1) (chI.ins (by decide)) (ea1 (ev_var (I := dt (dC t.b)) h3)) rfl ⟨ok.sea, ok.b⟩) g1.sub fun v B2 H2 g2 _ => ?_
  have h1 := (chI W t.s).mono g2.base h1
  refine s_ifN ((et_not (et_B (ev_call (.int t.e, 0, t.s.last) (ea_cons (ev_var (I := dt (.int t.e)) (.int _)) (ea_cons ev_int (ea_cons (ev_chLast Z (ev_var h1)) ea_nil))) trivial))).is ?_) g2.sub fun B3 H3 g3 => ?_
  · show (!(decide (0 ≤ t.e) && decide (t.e ≤ t.s.last))) = false
    rw [decide_eq_true t1, decide_eq_true (by omega)]
    rfl
  have h1 := (chI W t.s).mono g3.base h1
  refine s_ifN (et_andN (et_test (ev_notN (ev_var (I := dt (.int t.l)) (.int _)))) fun _ => (et_not (et_B (ev_call (.int t.l, t.e, t.s.last) (ea_cons (ev_var (I := dt (.int t.l)) (.int _)) (ea_cons (ev_var (I := dt (.int t.e)) (.int _)) (ea_cons (ev_chLast Z (ev_var h1)) ea_nil))) trivial))).is ?_) g3.sub fun B4 H4 g4 => ?_
  · show (!(decide (t.e ≤ t.l) && decide (t.l ≤ t.s.last))) = false
    rw [decide_eq_true t2, decide_eq_true t3]
    rfl
  have w4 := (((w0.step g1).step g2).step g3).step g4
  have s4 : Same Bk B4 := g1.base.trans (g2.base.trans (g3.base.trans g4.base))
  have h1 := (chI W t.s).mono g4.base h1
  refine s_fldW w4 (ev_var h1) cls (noA _ (by decide)) (by decide) fun c B5 H5 g5 p5 w5 => ?_
  have h2 : Rp B5 v2 (dC t.a) := Rp.mono (Sd.of (g2.base.trans (g3.base.trans (g4.base.trans g5.base)))) h2
  refine s_fldW w5 (ev_var (I := dt (dC t.a)) h2) cls (noA _ (by decide)) (by show 1 < 1000; decide) fun st B6 H6 g6 p6 w6 => ?_
  have h3 : Rp B6 v3 (dC t.b) := Rp.mono (Sd.of (g2.base.trans (g3.base.trans (g4.base.trans (g5.base.trans g6.base))))) h3
  refine s_fldW w6 (ev_var (I := dt (dC t.b)) h3) cls (noA _ (by decide)) (by show 2 < 1000; decide) fun gl B7 H7 g7 p7 w7 => ?_
  refine s_fldW w7 (ev_var (I := xv (.int t.e)) rfl) cls (noA _ (by decide)) (by show 3 < 1000; decide) fun ve B8 H8 g8 p8 w8 => ?_
  refine s_fldO1 (I := xv (.int t.l)) (ev_if (b := false) (et_test ((ev_isN (ev_var (I := dt (.int t.l)) (.int _))).is rfl)) (fun e => nomatch e) fun _ => ev_var (I := xv (.int t.l)) rfl) w8.g.sub rfl w8.bo w8.ho cls (noA _ (by decide)) (by show 4 < 1000; decide) fun vl B9 H9 g9 p9 _ _ => ?_
  have w9 := (w8.step g9).set "last" vl
  have p8 : ve = .int t.e := p8
  have p9 : vl = .int t.l := p9
  subst p8 p9
  have s9 := g6.base.trans (g7.base.trans (g8.base.trans g9.base))
  exact q B9 _ c st gl (s4.trans (g5.base.trans s9)) w9 ⟨(chI W t.s).mono s9 p5, Rp.mono (Sd.of (g7.base.trans (g8.base.trans g9.base))) p6, Rp.mono (Sd.of (g8.base.trans g9.base)) p7⟩
theorem ev_mkTrip {σ : L2.St} {H : Hp} {tr tk : TA} {t : Tr} {E : XK} (h : EvA tr σ H [chI W t.s, dt (dC t.a), dt (dC t.b)]) (hk : EvA tk σ H [dt (.int t.e), dt (.int t.l)]) (ok : TrOk t) (hb : t.ban = none) : Ev (tMakeK W.ct 3 2 (SpTI W) (fun vs zs => vs ++ zs) E tr tk) σ H (trI W t) := fun H1 s Q q =>
  h H1 s _ fun vs B2 H2 g2 p2 => hk.mono g2.base H2 g2.sub _ fun zs B3 H3 g3 p3 => by
    refine ⟨p2.length, p3.length, fun o dx h1 h2 h3 => ⟨t, W.ct, B3, H3, B3, o, dx, vs ++ zs, .inl rfl, ok, Own1.start g3.sub h1 h2 h3, rfl, (p2.mono g3.base).app p3, fun B4 H4 c st gl s4 w4 f4 => ⟨rfl, ?_⟩⟩⟩
    exact q _ _ H4 ((g2.trans g3).trans w4.done) ⟨o, dx, c, st, gl, rfl, f4.mono w4.same, .inl ⟨hb, upd_same⟩⟩
end
/-- where a trip of the wider class may be -/
def banned (t : Tr) (d : PyData) : Bool := match t.ban with
  | none => false
  | some ps => ps.any fun p => PyData.eqv (dP p) d
theorem banned_dP {t : Tr} {ps : List Place} (h : t.ban = some ps) (p : Place) : banned t (dP p) = decide (p ∈ ps) := by
  unfold banned
  rw [h]
  show (ps.any fun q => PyData.eqv (dP q) (dP p)) = _
  have := any_dP p ps
  rw [List.any_map] at this
  exact this
def mayG (t : Tr) (d : PyData) : Bool := mayB t d && !banned t d
def nextB (t : Tr) (p : Place) : List Place := match t.ban with
  | none => nextT t p
  | some ps => (nextT t p).filter fun q => !decide (q ∈ ps)
def brI (ps : List Place) : Item := exI (fun p : Addr × List (List Key × V) => dtI p.1 p.2) fun p => BarOk p.2 ps
section
variable {K : PySem.W.Frag} {mg : Str → Option Value} {W : Wd} {σ : L2.St} {H B : Hp} {ta ty td : TE} {tr : TA} {t : Tr} {ps : List Place} {p : Place}
theorem ev_trBar (Z : Kc K mg W) (h : Ev ta σ H (trI W t)) (hb : t.ban = some ps) : Ev (tFld K ta "_barred") σ H (brI ps) :=
  ev_fld h fun v A ⟨x, dx, c, st, gl, e, q, r⟩ => by
    rcases r with ⟨r1, r2⟩ | ⟨ps', dd, kvs, r1, r2, r3, r4⟩
    · rw [hb] at r1
      cases r1
    · rw [hb] at r1
      cases r1
      exact ⟨x, W.cg, dx, _, .ref dd, e, r2, Z.clsG, Z.noG _ (by decide), rfl, (dd, kvs), r4, rfl, r3⟩
theorem ev_dnotinB (hk : EvD ty σ B (dP p)) (hd : Ev td σ B (brI ps)) : EvD (tDNotIn ty td) σ B (.bool (!decide (p ∈ ps))) := fun H1 st Q q =>
  hk H1 st _ fun y B2 H2 g2 p2 => Ev.mono g2.base hd H2 g2.sub _ fun x B3 H3 g3 p3 => by
    obtain ⟨⟨a, kvs⟩, hks, rfl, e⟩ := p3
    obtain ⟨c, rfl, e2⟩ := Rp.key (is := [p.1, p.2.1, p.2.2]) p2
    refine ⟨a, _, rfl, DGet.t (g3.sub _ _ e) (g3.top _ _ (g2.sub _ _ e2)), ?_⟩
    rw [show valV kvs (kI [p.1, p.2.1, p.2.2]) = valV kvs (kP p) from rfl, hks p]
    exact q _ B3 H3 (g2.trans g3) (.bl _)
theorem ev_sup {α : Type} {args : α → List Item} {pre : α → Prop} {res : α → Item} {I : Item} {Is : List Item} {D : Addr} {i : Nat} {v : V} (x : α) (p : I.P v H) (hi : ∀ A, I.P v A → ∃ a dx fs, v = .ref a ∧ A a = some (.ins D dx fs)) (h : EvA tr σ H Is) (hx : args x = I :: Is) (hp : pre x) (hs : σ[i]? = some (some v) := by rfl) :
    Ev (tSup i D (SpF args pre res) tr) σ H (res x) := fun H1 s Q q => by
  obtain ⟨a, dx, fs, rfl, e⟩ := hi H p
  refine ⟨a, dx, fs, hs, s _ _ e, h H1 s _ fun vs B2 H2 g2 p2 => ⟨x, B2, hp, g2.sub, ?_, fun v B3 H3 g3 p3 => q v B3 H3 (g2.trans g3) p3⟩⟩
  rw [hx]
  exact .cons (I.mono g2.base p) p2
theorem trI.cg {v : V} {A : Hp} (h : (trI W t).P v A) (hb : t.ban = some ps) : ∃ a dx fs, v = .ref a ∧ A a = some (.ins W.cg dx fs) := by
  obtain ⟨x, dx, c, st, gl, e, q, r⟩ := h
  rcases r with ⟨r1, r2⟩ | ⟨ps', dd, kvs, r1, r2, r3, r4⟩
  · rw [hb] at r1
    cases r1
  · exact ⟨x, dx, _, e, r2⟩
end
section
variable {P : Program} {w : World} {K : PySem.W.Frag} {mg : Str → Option Value} {base : Heap} {W : Wd}
abbrev spMayG (W : Wd) : Sp := SpF (fun x : Tr × PyData => [trI W x.1, dt x.2]) (fun x => TrOk x.1 ∧ ∃ ps, x.1.ban = some ps) fun x => dt (.bool (mayG x.1 x.2))
theorem sc_GuardedTrip_may_be : SScope ["self", "place"] ["self", "place"] (defScope s_GuardedTrip_may_be) := sscope_by (by decide +kernel)
theorem ok_GuardedTrip_may_be {f0 f2 : Addr} {fd : FuncData} (T : Bt mg) (Z : Kc K mg W) (cm : FnR P w K mg base C8.CX0 5 f2 (spMayT W)) (hsm : PySem.W.ks_superIn K W.cg W.cg "may_be" = some (some (.ref f2))) (htm : PySem.W.typeIn K (.ref f2) = some (.type "function")) (hfm : PySem.W.fnIn K f2 = true) (F : DfS P K f0 "may_be" "GuardedTrip.may_be" (defArgs s_GuardedTrip_may_be) (defBody s_GuardedTrip_may_be) (defScope s_GuardedTrip_may_be) .none W.cg fd) : FnOk P w K mg base C8.CX0 6 f0 fd ["self", "place"] (spMayG W) := by
  have sc := sc_GuardedTrip_may_be
  refine fn_ofS (i := 0) (N := ["self", "place"]) F sc (hnd_by (by decide +kernel)) rfl (by first | exact Or.inl rfl | exact Or.inr (Or.inl rfl)) T.n_super (SpF.len fun _ => rfl) fun cc cdv A outer s H vs Q E hr SC hsp => ?_
  refine ⟨_, (pssA_one (psA_ret (peA_and (peA_sup SC hsm htm hfm cm hr (by decide) (pa_cons (pv 1) pa_nil)) (pe_one (pe_cmp (pc_dnotin (hu_of hr) (pv 1) (pe_fld (pv 0) rfl)) rfl))))), ?_⟩
  obtain ⟨⟨t, d⟩, B, hp, s0, ha, q⟩ := hsp
  dsimp only at hp ha q
  obtain ⟨v1, v2, rfl, h1, h2⟩ := ita2 ha
  obtain ⟨ok, ps, hb⟩ := hp
  refine s_ret (ev_and (c := !banned t d) (ev_sup (I := trI W t) (t, d) h1 (fun A h => trI.cg h hb) (ea1 (ev_var h2)) rfl ok) fun e => ?_) s0 q
  have e : mayB t d = true := e
  unfold mayB at e
  rw [Bool.and_eq_true] at e
  obtain ⟨p, rfl, _⟩ := inCh_of e.1
  rw [banned_dP hb]
  exact ev_dnotinB (ev_var h2) (ev_trBar Z (ev_var h1) hb)
abbrev spNextG (W : Wd) : Sp := SpF (fun x : Tr × Place => [trI W x.1, dt (dP x.2)]) (fun x => TrOk x.1 ∧ (∃ ps, x.1.ban = some ps) ∧ x.2 ∈ spots x.1.s ∧ x.1.e ≤ x.2.1 ∧ x.2.1 ≤ x.1.l) fun x => dt (dPs (nextB x.1 x.2))
theorem nextT_len (t : Tr) (p : Place) : (nextT t p).length ≤ 5 := by
  unfold nextT
  split
  · simp
  · rw [List.length_map, sortC_len, List.length_cons]
    have := nbrs_len t.s p.2
    omega
def fB (ps : List Place) : PyData → Option PyData
  | .tuple [.int a, .int b, .int c] => if (a, b, c) ∈ ps then none else some (dP (a, b, c))
  | _ => none
theorem fB_eq {ps : List Place} (e : Place) : fB ps (dP e) = if e ∈ ps then none else some (dP e) := rfl
theorem fm_ban {ps : List Place} (l : List Place) : (l.map dP).filterMap (fB ps) = (l.filter fun q => !decide (q ∈ ps)).map dP := by
  induction l with
  | nil => rfl
  | cons e l ih =>
    rw [List.map_cons, List.filterMap_cons, ih, fB_eq]
    by_cases h : e ∈ ps
    · rw [if_pos h, List.filter_cons_of_neg (by simpa using h)]
    · rw [if_neg h, List.filter_cons_of_pos (by simpa using h)]
      rfl
theorem sc_GuardedTrip_next_places : SScope ["self", "place", "others", "other"] ["self", "place"] (defScope s_GuardedTrip_next_places) := sscope_by (by decide +kernel)
theorem ok_GuardedTrip_next_places {f0 f2 : Addr} {fd : FuncData} (T : Bt mg) (Z : Kc K mg W) (cm : FnR P w K mg base C8.CX0 5 f2 (spNextT W)) (hsm : PySem.W.ks_superIn K W.cg W.cg "next_places" = some (some (.ref f2))) (htm : PySem.W.typeIn K (.ref f2) = some (.type "function")) (hfm : PySem.W.fnIn K f2 = true) (F : DfS P K f0 "next_places" "GuardedTrip.next_places" (defArgs s_GuardedTrip_next_places) (defBody s_GuardedTrip_next_places) (defScope s_GuardedTrip_next_places) .none W.cg fd) : FnOk P w K mg base C8.CX0 6 f0 fd ["self", "place"] (spNextG W) := by
  have sc := sc_GuardedTrip_next_places
  refine fn_ofS (i := 0) (N := ["self", "place", "others", "other"]) F sc (hnd_by (by decide +kernel)) rfl (by first | exact Or.inl rfl | exact Or.inr (Or.inl rfl)) T.n_super (SpF.len fun _ => rfl) fun cc cdv A outer s H vs Q E hr SC hsp => ?_
  refine ⟨_, (pssA_cons (psA_set (i := 2) sc.nd rfl (by first | exact Or.inl rfl | exact Or.inr rfl) (peA_sup SC hsm htm hfm cm hr (by decide) (pa_cons (pv 1) pa_nil)))
    (pss_one (ps_ret (pe_lc (own := [("other", 3)]) rfl sc.nd (pi_list (pv 2)) (blkOk_by (own := [("other", 3)]) (N := ["self", "place", "others", "other"]) (sc := defScope s_GuardedTrip_next_places) (by decide +kernel)) (fun _ _ _ _ _ => (pg_name (i := 3) sc.nd rfl (by first | exact Or.inl rfl | exact Or.inr rfl))) (fun _ _ _ _ _ => (pts_one (pt_cmp (pc_dnotin (hu_of hr) (pv 3) (pe_fldK K rfl (pv 0) rfl)) rfl))) (fun _ _ _ _ _ => (pv 3)))))), ?_⟩
  obtain ⟨⟨t, p⟩, B, hp, s0, ha, q⟩ := hsp
  dsimp only at hp ha q
  obtain ⟨v1, v2, rfl, h1, h2⟩ := ita2 ha
  obtain ⟨ok, ⟨ps, hb⟩, hq⟩ := hp
  refine s_set (ev_sup (I := trI W t) (t, p) h1 (fun A h => trI.cg h hb) (ea1 (ev_var h2)) rfl ⟨ok, hq⟩) s0 fun v3 B1 H1 g1 p1 => ?_
  have p1 : Rp B1 v3 (.list ((nextT t p).map dP)) := p1
  have hl := nextT_len t p
  refine s_ret ((ev_lcL (fB ps) (wk_list (ev_var (I := dt (.list ((nextT t p).map dP))) p1)) (by rw [List.length_map]; omega) fun d y B2 hd s2 p2 => ?_).is ?_) g1.sub fun v B2 H2 g2 p => q v B2 H2 (g1.trans g2) p
  · obtain ⟨e, _, rfl⟩ := List.mem_map.mp hd
    have r1 := (trI W t).mono (g1.base.trans s2) h1
    refine ⟨_, !decide (e ∈ ps), gt_name, rfl, et_B (ev_dnotinB (p := e) (ev_var (I := dt (dP e)) p2) (ev_trBar Z (ev_var r1) hb)), fun z => ?_, fun z => ?_⟩
    · exact if_pos (by simpa using z)
    · exact ⟨dP e, if_neg (by simpa using z), ev_var (I := dt (dP e)) p2⟩
  · rw [fm_ban, nextB, hb]
    rfl
abbrev spGuard (W : Wd) : Sp := SpIn W.cg (fun t : Tr => [chI W t.s, dt (dC t.a), dt (dC t.b), dt (dPs (t.ban.getD [])), dt (.int t.e), dt (.int t.l)]) (fun t => TrOk t ∧ ∃ ps, t.ban = some ps ∧ ps.length ≤ 400 ∧ ∀ p ∈ ps, p ∈ spots t.s) (trI W)
theorem sc_GuardedTrip___init__ : SScope ["self", "chart", "start", "goal", "forbidden", "first", "last", "at", "place"] ["self", "chart", "start", "goal", "forbidden", "first", "last"] (defScope s_GuardedTrip___init__) := sscope_by (by decide +kernel)
theorem ok_GuardedTrip___init__ {f0 f2 : Addr} {fd : FuncData} (T : Bt mg) (Z : Kc K mg W) (mcontains : C8.Met P w K mg base 4 W.cc "__contains__" (spContains W) []) (cm : CalK P w K mg base 5 f2 4 ["first", "last"] (SpTI W)) (hsm : PySem.W.ks_superIn K W.cg W.cg "__init__" = some (some (.ref f2))) (htm : PySem.W.typeIn K (.ref f2) = some (.type "function")) (hfm : PySem.W.fnIn K f2 = true) (F : DfS P K f0 "__init__" "GuardedTrip.__init__" (defArgs s_GuardedTrip___init__) (defBody s_GuardedTrip___init__) (defScope s_GuardedTrip___init__) .none W.cg fd) : FnOk P w K mg base C8.CX0 6 f0 fd ["self", "chart", "start", "goal", "forbidden", "first", "last"] (spGuard W) := by
  have sc := sc_GuardedTrip___init__
  refine fn_ofS (i := 0) (N := ["self", "chart", "start", "goal", "forbidden", "first", "last", "at", "place"]) F sc (hnd_by (by decide +kernel)) rfl (by first | exact Or.inl rfl | exact Or.inr (Or.inl rfl)) T.n_super (SpIn.len fun _ => rfl) fun cc cdv A outer s H vs Q E hr SC hsp => ?_
  refine ⟨_, (pssA_cons (psA_expr (peA_supK SC hsm htm hfm cm hr (by decide) (pa_cons (pv 1) (pa_cons (pv 2) (pa_cons (pv 3) pa_nil))) (pk_cons (pv 5) (pk_cons (pv 6) pk_nil))))
    (pss_cons (ps_if (PW.pt (pw_or (pt_not (pt_val (pe_callB call_isiT (by rfl) T.n_isinstance bb_isinstance (pa_cons (pv 4) (pa_cons (pe_tup (pa_cons (pe_bltn (v := .ty "list") (by rfl) T.n_list bb_list rfl) (pa_cons (pe_bltn (v := .ty "tuple") (by rfl) T.n_tuple bb_tuple rfl) pa_nil))) pa_nil))))) (pw_or1 (pt_cmpR op_gt (pe_callB call_len_seq (by rfl) T.n_len bb_len (pa_cons (pv 4) pa_nil)) pe_int (nomark _))))) (pss_one ps_never) pss_nil)
    (pss_cons (ps_fld (pv 0) pe_dnewT rfl)
    (pss_one (ps_for PassesOwn.never rfl (pi_enum (by rfl) T.n_enumerate (pa_cons (pv 4) pa_nil)) (pg_tup (n := 2) rfl (pgs_cons (pg_name (i := 7) sc.nd rfl (by first | exact Or.inl rfl | exact Or.inr rfl)) (pgs_cons (pg_name (i := 8) sc.nd rfl (by first | exact Or.inl rfl | exact Or.inr rfl)) pgs_nil)))
      (pss_cons (ps_if (pt_cmpR (op_niOwn mcontains hr (by decide)) (pv 8) (pv 1) (by rfl)) (pss_one ps_never) pss_nil)
      (pss_one (ps_dput (hu_of hr) (pe_fld (pv 0) rfl) (pv 8) pe_bl rfl)))))))), ?_⟩
  obtain ⟨t, B, H0, o, dx, ws, hp, n1, n2, n3, rfl, s0, rfl, ha, q⟩ := hsp
  dsimp only at hp ha q
  obtain ⟨v1, v2, v3, v4, v5, v6, rfl, h1, h2, h3, h4, h5, h6⟩ := ita6 ha
  obtain ⟨ok, ps, hb, hpl, hps⟩ := hp
  have e5 : v5 = .int t.e := Rp.int_eq h5
  have e6 : v6 = .int t.l := Rp.int_eq h6
  subst e5 e6
  rw [hb] at h4
  have h4 : Rp B v4 (.list (ps.map dP)) := h4
  have w0 := Own1.start (C := W.cg) s0 n1 n2 n3
  refine ⟨o, dx, [], rfl, w0.ho, EvA.mono (Same.refl B) (ea_cons (ev_var h1) (ea_cons (ev_var h2) (ea1 (ev_var h3)))) _ w0.g.sub _ fun vs B1 H1 g1 p1 => ?_⟩
  refine EvA.mono (Same.refl B1) (ea_cons (ev_var (I := dt (.int t.e)) (.int _)) (ea1 (ev_var (I := dt (.int t.l)) (.int _)))) H1 g1.sub _ fun zs B2 H2 g2 p2 => ⟨p1.length, p2.length, t, W.cg, B, H0, B2, o, dx, vs ++ zs, .inr rfl, ok, (w0.step g1).step g2, rfl, (p1.mono g2.base).app p2, fun B3 H3 c st gl s3 w3 f3 => ?_⟩
  have h4 : Rp B3 v4 (.list (ps.map dP)) := Rp.mono (Sd.of (g1.base.trans (g2.base.trans s3))) h4
  have h1 := (chI W t.s).mono (g1.base.trans (g2.base.trans s3)) h1
  refine s_ifN (et_or (b := false) (c := false) ((et_not (et_B (ev_isiLT (ev_var (I := dt (.list (ps.map dP))) h4)))).is rfl) fun _ => (et_test (ev_ib (ev_cb (ea1 (ev_var (I := dt (.list (ps.map dP))) h4)) rc_len) ev_int)).is ?_) w3.g.sub fun B4 H4 g4 => ?_
  · rw [List.length_map]
    exact decide_eq_false (by omega)
  have w4 := w3.step g4
  intro dd hdd
  have w5 := (w4.put (u := .dT []) hdd).set "_barred" (.ref dd)
  refine ⟨_, rfl, o, W.cg, dx, _, rfl, (w4.put (u := .dT []) hdd).ho, Z.clsG, Z.noG _ (by decide), by show 5 < 1000; decide, ?_⟩
  have ndo : dd ≠ o := fun z => by
    subst z
    rw [w4.ho] at hdd
    cases hdd
  have ndx : dd ≠ dx := fun z => by
    subst z
    rw [w4.hd] at hdd
    cases hdd
  have h0d : H0 dd = none := w4.g.top.free hdd
  have b4d : B4 dd = none := w4.g.sub.free hdd
  have e8 : putF "_barred" (.ref dd) (trFs c st gl t) = trFs c st gl t ++ [(("_barred" : Str), V.ref dd)] := rfl
  rw [e8] at w5 ⊢
  generalize hH5 : upd (upd H4 dd (.dT [])) o (.ins W.cg dx (trFs c st gl t ++ [(("_barred" : Str), V.ref dd)])) = H5 at w5 ⊢
  have gc := w5.done
  have sc5 := w5.same
  have eH5 : H5 dd = some (.dT []) := by rw [← hH5, upd_ne ndo, upd_same]
  generalize hBc : upd (upd B4 dx (.own o)) o (.ins W.cg dx (trFs c st gl t ++ [(("_barred" : Str), V.ref dd)])) = Bc at gc sc5
  have bcd : Bc dd = none := by rw [← hBc, upd_ne ndo, upd_ne ndx]; exact b4d
  have bco : Bc o = some (.ins W.cg dx (trFs c st gl t ++ [(("_barred" : Str), V.ref dd)])) := by rw [← hBc, upd_same]
  clear hBc hH5
  have h4 : Rp Bc v4 (.list (ps.map dP)) := Rp.mono (Sd.of (g4.base.trans sc5)) h4
  have h1 := (chI W t.s).mono (g4.base.trans sc5) h1
  have f3 := f3.mono (g4.base.trans sc5)
  dsimp only
  refine s_for (wk_enum (ev_var (I := dt (.list (ps.map dP))) h4)) gc.sub fun B9 H9 g9 =>
    ⟨fun i σ Bi Hi => (∃ a b, σ = [some (.ref o), some v1, some v2, some v3, some v4, some (.int t.e), some (.int t.l), a, b]) ∧ Grow B H0 Bi Hi ∧ Bi dd = none ∧ ∃ kvs, Hi dd = some (.dT kvs) ∧ kvs.length ≤ i ∧ BarOk kvs (ps.take i),
      ⟨⟨_, _, rfl⟩, gc.trans g9, (g9.kept bcd eH5).1, [], (g9.kept bcd eH5).2, Nat.le_refl _, fun p => by simp [valV]⟩, ?_, ?_⟩
  · rintro i y _ Ba Ha Bb Hb l ⟨⟨a, b, rfl⟩, gg, bd, kvs, eh, kl, ek⟩ sa gb py
    rw [List.length_map] at l
    have py : Rp Bb y (.tuple [.int i, (ps.map dP).getD i .none]) := py
    rw [getD_mapf l] at py
    obtain ⟨u, ru, gt⟩ := gt_pair (K := K) (σ := [some (.ref o), some v1, some v2, some v3, some v4, some (.int t.e), some (.int t.l), a, b]) (i := 7) (j := 8) py
    refine ⟨_, gt, ?_⟩
    have kb := gb.kept bd eh
    have r1 := (chI W t.s).mono (g9.base.trans (sa.trans gb.base)) h1
    refine s_ifN ((et_test (ev_op (ev_var (I := dt (dP ps[i])) ru) (ev_var r1) (rv_ni (bb := fun x : Sea × PyData => inCh x.1 x.2) (t.s, dP ps[i]) (fun _ => rfl) chI.obj rfl ok.sea))).is ?_) gb.sub fun B6 H6 g6 => ?_
    · show (!decide (ps[i] ∈ spots t.s)) = false
      rw [decide_eq_true (hps _ (List.getElem_mem l))]
      rfl
    · have ky := g6.kept kb.1 kb.2
      have gz := (gg.trans gb).trans g6
      refine s_dputO (is := [ps[i].1, ps[i].2.1, ps[i].2.2]) (ev_bl (b := true)) g6.sub (fun B1 H1 g1 Q q => ?_) (ev_var (I := dt (dP ps[i])) (Rp.mono (Sd.of g6.base) ru)) ky.1 ky.2 ?_ fun v' B1 H1 g1 _ b1 e1 => ?_
      · have hob : H1 o = some (.ins W.cg dx (trFs c st gl t ++ [(("_barred" : Str), V.ref dd)])) := g1.top _ _ (g6.top _ _ (gb.top _ _ ((g9.base.trans (sa.trans gg.sub)) _ _ bco)))
        exact ⟨_, rfl, o, W.cg, dx, _, .ref dd, rfl, hob, Z.clsG, Z.noG _ (by decide), rfl, q⟩
      · exact Nat.lt_of_le_of_lt (Nat.le_trans kl (by omega : _ ≤ 400)) (by decide)
      · refine ⟨B1, sa.trans (gb.base.trans (g6.base.trans g1.base)), Same.put (gz.trans g1).sub b1, ⟨_, _, rfl⟩, (gz.trans g1).put h0d b1, b1, _, upd_same, putK_len kl, fun p => ?_⟩
        rw [show kI [ps[i].1, ps[i].2.1, ps[i].2.2] = kP ps[i] from rfl, valV_put, decide_eq_decide.mpr (mem_take_succ l (p := p))]
        by_cases hpp : p = ps[i]
        · rw [if_pos (congrArg kP hpp), decide_eq_true (.inr hpp)]
          rfl
        · rw [if_neg (fun z => hpp (kP_inj z)), ek p]
          exact decide_eq_decide.mpr ⟨fun h => .inl h, fun h => h.elim id fun z => absurd z hpp⟩
  · rintro _ Ba Ha ⟨⟨a, b, rfl⟩, gg, bd, kvs, eh, kl, ek⟩ sa sb
    rw [List.length_map, List.take_length] at ek
    have gf := gg.commit h0d bd eh
    have so : Same Bc (upd Ba dd (.dT kvs)) := (g9.base.trans sa).trans (same_new bd)
    exact q _ _ gf ⟨o, dx, c, st, gl, rfl, f3.mono so, .inr ⟨ps, dd, kvs, hb, so _ _ bco, upd_same, ek⟩⟩
end
end Sky

set_option Elab.async false
set_option linter.all false
set_option maxRecDepth 100000
set_option maxHeartbeats 4000000
/-! Rules of my own: dicts with tuple keys (list, truth, a comprehension), one of two readings, while. -/
namespace Sky
open PySem PySem.Spec PyProof.Rows L2
/-! ### the heap's tuples become known -/
def tx (B H : Hp) : Hp := fun a => match B a with
  | some o => some o
  | none => match H a with
    | some (.tup xs) => some (.tup xs)
    | _ => none
theorem tx_base {B H : Hp} : Same B (tx B H) := fun a o e => by
  unfold tx
  rw [e]
theorem tx_sub {B H : Hp} (s : Same B H) : Same (tx B H) H := fun a o e => by
  unfold tx at e
  cases q : B a with
  | some u =>
    rw [q] at e
    have e := Option.some.inj e
    rw [← e]
    exact s a u q
  | none =>
    rw [q] at e
    dsimp only at e
    split at e
    · rename_i xs h
      cases e
      exact h
    · cases e
theorem tx_tup {B H : Hp} (s : Same B H) {a : Addr} {xs : List V} (h : H a = some (.tup xs)) : tx B H a = some (.tup xs) := by
  unfold tx
  cases q : B a with
  | some u =>
    have := s a u q
    rw [h] at this
    exact this.symm
  | none =>
    dsimp only
    rw [h]
theorem tx_none {B H : Hp} {a : Addr} {o : HO} (hB : B a = none) (hH : H a = some o) (n : NoTup o) : tx B H a = none := by
  unfold tx
  rw [hB]
  dsimp only
  split
  · rename_i xs h
    rw [hH] at h
    cases h
    exact absurd rfl (n xs)
  · rfl
theorem Grow.tx {A A1 B H : Hp} (g : Grow A A1 B H) : Grow A A1 (Sky.tx B H) H :=
  ⟨g.base.trans tx_base, g.top, tx_sub g.sub, fun a o e n t => tx_none (g.new a o e n t) (g.top _ _ n) t⟩
section
variable {K : PySem.W.Frag} {σ : L2.St} {H B : Hp} {ta tb td te : TE} {tr : TA} {I J : Item} {b : Bool} {a : Addr}
/-! ### list(d) -/
theorem keys_rpa {B H : Hp} (s : Same B H) : ∀ {kvs : List (List Key × V)} {is : List (List Int)} {bs : List Addr}, kvs.map Prod.fst = is.map kI → IsKeys H kvs bs → RpA (Sky.tx B H) (bs.map V.ref) (is.map dI)
  | [], [], _, _, .nil => .nil
  | [], _ :: _, _, h, _ => by simp at h
  | kv :: kvs, [], _, h, _ => by simp at h
  | kv :: kvs, i :: is, _, h, .cons r t => by
    rw [List.map_cons, List.map_cons, List.cons.injEq] at h
    refine .cons (.tup (tx_tup s r) ?_) (keys_rpa s h.2 t)
    rw [h.1, kI, List.map_map]
    have : ∀ l : List Int, RpA (Sky.tx B H) (l.map (kV ∘ Sum.inl)) (l.map PyData.int) := fun l => by
      induction l with
      | nil => exact .nil
      | cons x l ih => exact .cons (.int x) ih
    exact this i
def rLd : List V → Hp → VK → Prop := fun xs H Q => ∃ d kvs, xs = [V.ref d] ∧ Rd H d (.dT kvs) ∧ ∀ p bs, H p = none → IsKeys H kvs bs → Q (.ref p) (upd H p (.lst (bs.map V.ref)))
/-- over a dict that the heap holds -/
theorem ev_listO {kvs : List (List Key × V)} {is : List (List Int)} (s : Same B H) (hd : ∀ Q : VK, Q (.ref a) H → td σ H Q) (eH : H a = some (.dT kvs)) (hk : kvs.map Prod.fst = is.map kI) {Q : VK} (q : ∀ v B1 H1, Grow B H B1 H1 → Rp B1 v (.list (is.map dI)) → Q v H1) : tCB rLd (tCons td tNil) σ H Q :=
  hd _ ⟨a, kvs, rfl, Rd.of eH, fun p bs hp hb => q _ _ _ (((Grow.refl s).tx).trans (Grow.alloc (tx_sub s) hp)) (.lst upd_same ((keys_rpa s hk hb).mono (Sd.of (same_new ((tx_sub s).free hp)))))⟩
theorem ev_listT {kvs : List (List Key × V)} {is : List (List Int)} (hd : Ev td σ B (dtI a kvs)) (hk : kvs.map Prod.fst = is.map kI) : EvD (tCB rLd (tCons td tNil)) σ B (.list (is.map dI)) := fun H1 s Q q =>
  hd H1 s _ fun v B2 H2 g2 p2 => by
    obtain ⟨rfl, e⟩ := p2
    exact ⟨a, kvs, rfl, Rd.of (g2.sub _ _ e), fun p bs hp hb => q _ _ _ ((g2.tx).trans (Grow.alloc (tx_sub g2.sub) hp)) (.lst upd_same ((keys_rpa g2.sub hk hb).mono (Sd.of (same_new ((tx_sub g2.sub).free hp)))))⟩

/-! ### one of two readings -/
def tEi (t1 t2 : TE) : TE := fun σ H Q => t1 σ H Q ∨ t2 σ H Q
theorem pe_ei {X : Cx} {e : Expr} (h1 : PE X e ta) (h2 : PE X e tb) : PE X e (tEi ta tb) := ⟨fun pins s σ H Q I h => h.elim (h1.run pins s σ H Q I) (h2.run pins s σ H Q I)⟩
theorem ev_l (h : Ev ta σ H I) : Ev (tEi ta tb) σ H I := fun H1 s Q q => .inl (h H1 s Q q)
theorem ev_r (h : Ev tb σ H I) : Ev (tEi ta tb) σ H I := fun H1 s Q q => .inr (h H1 s Q q)

/-! ### while -/
theorem s_while {tc : TT} {tw : TS} {D : Ends} (Pv : Nat → L2.St → Hp → Hp → Prop) {m0 : Nat} (h0 : Pv m0 σ B H)
    (turn : ∀ m σ1 B1 H1, Pv m σ1 B1 H1 → ∃ b, EvT tc σ1 B1 b ∧ Same B1 H1 ∧
      (b = true → ∀ B2 H2, Grow B1 H1 B2 H2 → tw { D with nx := fun σ' H' => ∃ m' B', m' < m ∧ Pv m' σ' B' H', ct := fun σ' H' => ∃ m' B', m' < m ∧ Pv m' σ' B' H', bk := D.nx } σ1 H2) ∧
      (b = false → ∀ B2 H2, Grow B1 H1 B2 H2 → D.nx σ1 H2)) : tWhile tc tw D σ H := by
  refine ⟨fun m σ1 H1 => ∃ B1, Pv m σ1 B1 H1, ⟨m0, B, h0⟩, ?_⟩
  rintro m σ1 H1 ⟨B1, p⟩
  obtain ⟨b, h1, h2, h3, h4⟩ := turn m σ1 B1 H1 p
  refine h1 H1 h2 _ fun B2 H2 g => ?_
  cases b with
  | true =>
    rw [if_pos rfl]
    exact ⟨fun σ' H' => ∃ m' B', m' < m ∧ Pv m' σ' B' H', fun σ' H' ⟨m', B', l, p⟩ => ⟨m', l, B', p⟩, h3 rfl B2 H2 g⟩
  | false =>
    rw [if_neg Bool.false_ne_true]
    exact h4 rfl B2 H2 g
theorem s_whileq {tc : TT} {tw tu : TS} {D : Ends} (Pv : Nat → L2.St → Hp → Hp → Prop) {m0 : Nat} (h0 : Pv m0 σ B H)
    (turn : ∀ m σ1 B1 H1, Pv m σ1 B1 H1 → ∃ b, EvT tc σ1 B1 b ∧ Same B1 H1 ∧
      (b = true → ∀ B2 H2, Grow B1 H1 B2 H2 → tw { D with nx := fun σ' H' => ∃ m' B', m' < m ∧ Pv m' σ' B' H', ct := fun σ' H' => ∃ m' B', m' < m ∧ Pv m' σ' B' H', bk := tu D } σ1 H2) ∧
      (b = false → ∀ B2 H2, Grow B1 H1 B2 H2 → tu D σ1 H2)) : tSeq (tWhile tc tw) tu D σ H := s_while (D := { D with nx := tu D }) Pv h0 turn

/-! ### the truth of a dict with tuple keys -/
theorem truthT {prog : Program} {w : World} {A : Around} {E : Value → Shared → Prop} {s : Shared} {κ : Type} [DecidableEq κ] {knd : HeapKind prog w κ} {d : Addr} {xs : List (κ × Addr × Value)} {Q : Bool → Shared → Prop}
    (hd : (d == sysModules) = false) (hm : s.heap.DictOfH knd d xs) (hz : (xs.length : Int) < 2 ^ 63) (h : Q (!xs.isEmpty) { s with toks := s.toks + 1 + 1 }) : wpAny (model prog w) A (truthy (.ref d)) Q E s := by
  have hne : ((xs.length : Int) != 0) = !xs.isEmpty := by cases xs <;> simp <;> omega
  have len : wpAny (model prog w) A (runValue (.builtin "len" ⟨[.ref d], []⟩)) (fun r s1 => r = .int xs.length (s.toks + 1) ∧ Q (!xs.isEmpty) s1) E s := by
    refine wpAny_runValue (codeAny_builtin entry_len ?_)
    rw [Around.under_plainId plain_len _]
    refine wpAny_mono (wpAny_len_body_dictH (Q := fun r s1 => r = .int xs.length (s.toks + 1) ∧ Q (!xs.isEmpty) s1) hd hm hz ⟨rfl, h⟩) (fun fin s1 h1 => ?_) fun _ _ e => e
    obtain ⟨r, rfl, hq⟩ := h1
    exact hq
  unfold truthy
  refine wpAny_bind (wpAny_callSpecial?_none (name := Str.ofString "__bool__") hm.typeIs noBool_dict ?_)
  refine wpAny_bind (wpAny_specialOf (name := Str.ofString "__len__") hm.typeIs F.slot_dict_len.lookup ?_)
  exact wpAny_bind (wpAny_mono len (fun r s1 h1 => by obtain ⟨rfl, hq⟩ := h1; exact wpAny_pure (hne ▸ hq)) fun _ _ e => e)
def tTrT (te : TE) : TT := fun σ H Q => te σ H fun x H1 => ∃ d kvs, x = .ref d ∧ H1 d = some (.dT kvs) ∧ Q (!kvs.isEmpty) H1
theorem pt_trT {X : Cx} {e : Expr} (h : PE X e te) (he : ∀ whole, isTrue e X.env whole = (do let v ← whole; standAt e.pos; holding [v] (truthy v)) := by intro _; rfl) : PT X e (tTrT te) := by
  refine ⟨fun pins s σ H Q I hw => ?_⟩
  refine isTrue_plain (thn (h.run pins s σ H _ I hw) fun v s1 ⟨x, H1, I1, r1, q1⟩ => ?_) (he _)
  obtain ⟨d, kvs, rfl, hd, q⟩ := q1
  obtain rfl : v = Value.ref d := r1
  obtain ⟨z, hs, ys, rel, dd⟩ := dt_of I1.hok hd
  have hl : kvs.length = ys.length := Paired.length rel
  have hz := line63
  refine truthT hs dd (by omega) ⟨H1, I1.tok _, ?_⟩
  have e : ys.isEmpty = kvs.isEmpty := by
    cases kvs <;> cases ys <;> first | rfl | simp at hl
  rw [e]
  exact q
theorem et_trT {kvs : List (List Key × V)} (h : Ev te σ H (dtI a kvs)) : EvT (tTrT te) σ H (!kvs.isEmpty) := fun H1 s Q q =>
  h H1 s _ fun v B2 H2 g2 p2 => by
    obtain ⟨rfl, e⟩ := p2
    exact ⟨a, kvs, rfl, g2.sub _ _ e, q B2 H2 g2⟩
end
end Sky

set_option Elab.async false
set_option linter.all false
set_option maxRecDepth 100000
set_option maxHeartbeats 4000000
/-! {k: v for x in .. if ..} whose keys are tuples. -/
namespace Sky
open PySem PySem.Spec PyProof.Rows L2
section
variable {X : Cx}
/-- d[k] = v as a comprehension stores it, k a tuple -/
theorem dictSetT {pins : List (Addr × Obj)} {σ : L2.St} {H : Hp} {s : Shared} {E : Value → Shared → Prop} {D q : Addr} {kvs : List (List Key × V)} {k : List Key} {v : V} {r : Value} {Q : Unit → Shared → Prop} (hu : X.A.units + 1 < cLine) (I : Inv X pins σ H s) (hD : H D = some (.dT kvs)) (hq : H q = some (.tup (k.map kV)))
    (hz : kvs.length < sizeLine) (rv : RelV v r) (h : ∀ s1, Inv X pins σ (upd H D (.dT (putK kvs k v))) s1 → Q () s1) : wpAny (model X.prog X.w) X.A (dictSet D (.ref q) r) Q E s := by
  obtain ⟨z, hd, xs, rel, dd⟩ := dt_of I.hok hD
  have hx : xs.length ≤ sizeLine := by rw [← Paired.length rel]; exact z
  have hl : (putK kvs k v).length ≤ sizeLine := by have := length_putK kvs k v; omega
  refine wpAny_dictSet_heap (hsz := hx) (show X.A.units < cLine from Nat.lt_of_succ_lt hu) (key_of I.hok hq) dd fun h1 dd1 hs => h _ ?_
  obtain ⟨ob, es, ep, e1, e2, e3, e4, _, e5⟩ := dd1
  refine d_write I (by rw [hD]; exact True.intro) hs ⟨ob, e1⟩ ⟨hl, hd, _, (rel.put k hq rv).keeps fun c ys ec => ?_, ob, es, ep, e1, e2, e3, e4, e5⟩
  rw [upd_ne (ne_of ec hD (fun z => nomatch z))]
  exact ec
/-- D is the new dict -/
def tDcT (wi : TI) (g : TG) (tt : TT) (tk tv : TE) (vs : List Nat) : TE := fun σ H Q => wi σ H fun J A => ∀ D, A D = none → ∃ W : Nat → Nat → Hp → Prop, (∃ m, W 0 m (upd A D (.dT []))) ∧ ∀ i m B, W i m B →
  (J.stop i B ∧ Q (.ref D) B) ∨ (J.go i B ∧ ∃ Nx : Hp → Prop, (∀ C, Nx C → ∃ n, n < m ∧ W (i + 1) n C) ∧ ∀ x C, J.yld i B x C → g x (wipe σ vs) C fun σ1 C1 => wipe σ1 vs = wipe σ vs ∧ tt σ1 C1 fun b C2 =>
    if b = true then tk σ1 C2 fun y C3 => tv σ1 C3 fun z C4 => ∃ kvs k q, y = .ref q ∧ C4 q = some (.tup (k.map kV)) ∧ C4 D = some (.dT kvs) ∧ kvs.length < sizeLine ∧ Nx (upd C4 D (.dT (putK kvs k z))) else Nx C2)
variable {kx vx tg iter : Expr} {ifs : List Expr} {scope : Scope} {own : List (Str × Nat)} {pos : Pos} {wi : TI} {g : TG} {tt : TT} {tk tv : TE}
theorem pe_dcT (hc : X.calm = true) (hN : X.N.Nodup) (hu : X.A.units + 1 < cLine) (hi : PI X tg iter wi) (ok : BlkOk X.N X.env.scope scope own)
    (hg : ∀ (s : Shared) (H : Hp) (C : Addr) (cl : List (Str × Addr)) (fp : List Addr), PG (X.blk s H scope (compEnvC scope cl C X.env) fp) tg g)
    (ht : ∀ (s : Shared) (H : Hp) (C : Addr) (cl : List (Str × Addr)) (fp : List Addr), PTs (X.blk s H scope (compEnvC scope cl C X.env) fp) ifs tt)
    (hk : ∀ (s : Shared) (H : Hp) (C : Addr) (cl : List (Str × Addr)) (fp : List Addr), PE (X.blk s H scope (compEnvC scope cl C X.env) fp) kx tk)
    (hv : ∀ (s : Shared) (H : Hp) (C : Addr) (cl : List (Str × Addr)) (fp : List Addr), PE (X.blk s H scope (compEnvC scope cl C X.env) fp) vx tv) (hs : ∀ x, foldedSetIterable iter X.env x = pure x := by intro _; rfl) :
    PE X (.DictComp kx vx [⟨tg, iter, ifs, 0⟩] scope pos) (tDcT wi g tt tk tv (own.map (·.2))) := by
  refine ⟨fun pins s σ H Q I hw => ?_⟩
  rw [arm_eval_DictComp]
  have free : ∀ y ∈ scope.names, y.2 = .free → ∃ c, X.env.cells.lookup y.1 = some c := fun y hy e => (ok.free y hy e).elim (fun k => I.ok.has _ (.inl k)) fun k => I.ok.has _ (.inr k)
  refine wpAny_comprehension_free rfl hs (closure_ok free) ok.kind (fun y hy e => by rw [ok.uniq y hy, e]) (thn (hi.run pins s σ H _ I hw) fun it0 sA hA => thn hA fun it1 sB hB => ?_)
  obtain ⟨it, fp, tn, J, A, e, IA, T, stA, fA, q⟩ := hB
  subst e
  refine wpAny_newObj_type (newEnv_comp ?_)
  generalize eD : sB.heap.objs.size = D
  obtain ⟨W, ⟨m0, w0⟩, turn⟩ := q D (IA.hok.fresh (Nat.le_of_eq eD))
  generalize es : ({ sB with heap := sB.heap.push { cls := .type "dict", data := .dict #[] } } : Shared) = sC
  have hC : sC.heap = sB.heap.push { cls := .type "dict", data := .dict #[] } := by rw [← es]
  have IC : Inv X pins σ (upd A D (.dT [])) sC := by
    rw [← es]
    refine IA.laid (t' := sB.toks) (fun b o z => Heap.get?_push_of_some _ z) (Nat.le_of_eq eD) ?_
    rw [← eD]
    exact dt_empty sB.heap IA.big
  have low : ∀ b ∈ fp, b < sB.heap.objs.size := fun b hb => let ⟨o, z, _⟩ := T.obj _ _ stA b hb; Heap.lt_size z
  have fC : ∀ b ∈ fp, FpOk X pins (upd A D (.dT [])) b ∧ b < sC.heap.objs.size := fun b hb => by
    refine ⟨⟨?_, (fA b hb).2⟩, by rw [hC, Heap.size_push]; exact Nat.lt_succ_of_lt (low b hb)⟩
    rw [upd_ne (by rw [← eD]; exact Nat.ne_of_lt (low b hb))]
    exact (fA b hb).1
  have stC : tn 0 sC.heap := T.keep _ _ _ stA fun b _ o z => by rw [hC]; exact Heap.get?_push_of_some _ z
  have IB := block_start IC ok hN fC
  generalize ecl : cellsFrom (sC.heap.objs.size + 1) scope.names (cloFrom X.env.cells scope.names []) = cl at IB
  have pg := hg sC (upd A D (.dT [])) sC.heap.objs.size cl fp
  have pt := ht sC (upd A D (.dT [])) sC.heap.objs.size cl fp
  have pk := hk sC (upd A D (.dT [])) sC.heap.objs.size cl fp
  have pv := hv sC (upd A D (.dT [])) sC.heap.objs.size cl fp
  have hfp : ∀ b ∈ fp, (upd A D (.dT [])) b = none := fun b hb => (fC b hb).1.1
  show codeAny _ _ (.compStart (.DictComp kx vx [⟨tg, iter, ifs, 0⟩] scope pos) 0 (.ref it) (.ref D) (compEnvC scope cl sC.heap.objs.size X.env)) (compPost _ _ _ _ _ (.ref D) sC.heap.objs.size) { sC with heap := pushCells (sC.heap.push { cls := .type "dict", data := .dict #[] }) scope.names }
  generalize ece : compEnvC scope cl sC.heap.objs.size X.env = ce at IB pg pt pk pv ⊢
  have loc : ce.locals = sC.heap.objs.size := by subst ece; rfl
  generalize eH : upd A D (.dT []) = H0 at IC IB pg pt pk pv w0 hfp fC
  generalize eS : ({ sC with heap := pushCells (sC.heap.push { cls := .type "dict", data := .dict #[] }) scope.names } : Shared) = sE at IB ⊢
  have stE : tn 0 sE.heap := T.keep _ _ _ stC fun b _ o z => by rw [← eS]; exact pushCells_keeps _ _ _ _ (Heap.get?_push_of_some _ z)
  have foot : ∀ {σ1 : L2.St} {G : Hp} {s1 : Shared}, Inv (X.blk sC H0 scope ce fp) [] σ1 G s1 → (∀ b ∈ fp, G b = none) → ∀ b ∈ fp, FpOk (X.blk sC H0 scope ce fp) [] G b := fun {σ1 G s1} IZ hn b hb =>
    ⟨hn b hb, (IZ.ok.exf b hb).1, IZ.ok.exfs b hb, .inl hb, fun x c z => (IZ.ok.exf b hb).2 x c z, fun p hp => absurd (show p ∈ ([] : List (Addr × Obj)) ++ [] from hp) (by simp)⟩
  have loop : codeAny (model X.prog X.w) X.A (.compLoop (.DictComp kx vx [⟨tg, iter, ifs, 0⟩] scope pos) 0 (.ref it) (.ref D) ce) (compPost (model X.prog X.w) X.A X.xe none (EP X pins σ Q) (.ref D) sC.heap.objs.size) sE := by
    refine compLoop_anyD (fun n s1 => ∃ i G, Inv (X.blk sC H0 scope ce fp) [] (wipe σ (own.map (·.2))) G s1 ∧ tn i s1.heap ∧ (∀ b ∈ fp, G b = none) ∧ W i n G) ?_ m0 ⟨0, H0, IB, stE, hfp, w0⟩
    rintro n s5 ⟨i, G, IG, stG, nG, wG⟩
    rcases turn i n G wG with ⟨stop, qq⟩ | ⟨go, Nx, hNx, step⟩
    · refine thnF (T.done (X.blk sC H0 scope ce fp) rfl rfl rfl hc i [] s5 _ G (fun _ _ => False) IG (foot IG nG) stG stop) fun r s6 ⟨hr, I6⟩ => ?_
      subst hr
      have I7 : Inv X pins σ G s6 := IC.call' (ch := fp) I6.os I6.base I6.hok I6.bare fun b hb => ⟨(fC b hb).1.2.2.2.1, (fC b hb).1.2.1, (fC b hb).1.2.2.2.2.1, (fC b hb).1.2.2.2.2.2⟩
      have nL : G sC.heap.objs.size = none := by
        have z : G ce.locals = none := I6.free
        rw [loc] at z
        exact z
      obtain ⟨m, hn, _⟩ := I6.loc
      have hn : s6.heap.Ns ce.locals m := hn
      rw [loc] at hn
      obtain ⟨f0, f1, f2, f3, f4, f5⟩ := IC.fpOk (Nat.le_refl _) nL
      exact ⟨m, hn, fun h2 sb => ⟨.ref D, G, I7.turned (t' := s6.toks) (fun b o hb z => (sb.2 b hb).trans z) f0 f1 f3 f4 f5, rfl, qq⟩⟩
    · refine thnF (T.item (X.blk sC H0 scope ce fp) rfl rfl rfl hc i [] s5 _ G (fun _ _ => False) IG (foot IG nG) stG go) fun r s6 ⟨u, hr, h6⟩ => ?_
      subst hr
      refine thnF h6 fun _ s7 ⟨x, G7, I7, r7, y7, st7, n7⟩ => ?_
      have P7 := I7.pinned (foot I7 n7) (T.obj _ _ st7)
      refine thnF (pg.run _ s7 _ G7 x u _ P7 r7 (step x G7 y7)) fun _ s8 ⟨σ8, G8, I8, w8, q8⟩ => ?_
      refine thnF (pt.run _ s8 σ8 G8 _ I8 q8) fun b s9 ⟨G9, I9, q9⟩ => ?_
      have fin : ∀ {s1 : Shared} {G1 : Hp}, Inv (X.blk sC H0 scope ce fp) ([] ++ pinsAt fp s7.heap) σ8 G1 s1 → Nx G1 → ∃ m, m < n ∧ ∃ i G, Inv (X.blk sC H0 scope ce fp) [] (wipe σ (own.map (·.2))) G s1 ∧ tn i s1.heap ∧ (∀ b ∈ fp, G b = none) ∧ W i m G := fun {s1 G1} IZ nx => by
        obtain ⟨m1, hm, w1⟩ := hNx G1 nx
        have pinned : ∀ b ∈ fp, ∀ o, s7.heap.get? b = some o → s1.heap.get? b = some o ∧ G1 b = none := fun b hb o z =>
          let y := IZ.pin (b, o) (List.mem_append_right _ (List.mem_append_right _ (mem_pinsAt hb z)))
          ⟨y.1, y.2.1⟩
        have hl : (wipe σ (own.map (·.2))).length = σ8.length := by rw [← w8, wipe_length]
        refine ⟨m1, hm, i + 1, G1, (IZ.unpinned (pins := [])).weak hl (fun j v z => ?_), T.keep _ _ _ st7 fun b hb o z => (pinned b hb o z).1, fun b hb => ?_, w1⟩
        · rw [← w8] at z
          exact (wipe_some z).1
        · obtain ⟨o, z, _⟩ := T.obj _ _ st7 b hb
          exact (pinned b hb o z).2
      cases b with
      | false =>
        simp only [Bool.false_eq_true, if_false] at q9 ⊢
        exact fin I9 q9
      | true =>
        simp only [if_true] at q9 ⊢
        refine thnF (pk.run _ s9 σ8 G9 _ I9 q9) fun z s10 ⟨yk, G10, I10, r10, q10⟩ => ?_
        refine thnF (pv.run _ s10 σ8 G10 _ I10 q10) fun z2 s11 ⟨yv, G11, I11, r11, kvs, k, p, ek, hp, hD, hz, nx⟩ => ?_
        subst ek
        obtain rfl : z = Value.ref p := r10
        exact dictSetT (X := X.blk sC H0 scope ce fp) hu I11 hD hp hz r11 fun s12 I12 => fin I12 nx
  exact codeAny_compStart_dict loop (T.self X.A 0 _ _ _ stE loop)
end
end Sky

set_option Elab.async false
set_option linter.all false
set_option maxRecDepth 100000
set_option maxHeartbeats 4000000
/-! Plain: layers of places, what is reached, what leads to the goal, the ways. -/
namespace Sky
open PySem PySem.Spec PyProof.Rows L2
def banL (t : Tr) : List Place := t.ban.getD []
def addK (ks : List Place) (p : Place) : List Place := if p ∈ ks then ks else ks ++ [p]
def addAll (ks l : List Place) : List Place := l.foldl addK ks
def sortP (ps : List Place) : List Place := ps.mergeSort fun a b => PySem.W.dataLe false id (dP a) (dP b)
theorem sortP_eq (cs : List Place) : (sortP cs).map dP = sortD (cs.map dP) := PySem.W.sort_maps (r := fun a b => PySem.W.dataLe false id (dP a) (dP b)) (s := PySem.W.dataLe false id) dP fun a _ b _ => rfl
theorem sortP_perm (cs : List Place) : (sortP cs).Perm cs := List.mergeSort_perm _ _
theorem mem_sortP {cs : List Place} {p : Place} : p ∈ sortP cs ↔ p ∈ cs := (sortP_perm cs).mem_iff
theorem mem_addK {ks : List Place} {p q : Place} : q ∈ addK ks p ↔ q ∈ ks ∨ q = p := by
  unfold addK
  split
  · rename_i h
    exact ⟨.inl, fun z => z.elim id fun e => e ▸ h⟩
  · simp
theorem mem_addAll {l : List Place} : ∀ {ks : List Place} {q : Place}, q ∈ addAll ks l ↔ q ∈ ks ∨ q ∈ l := by
  induction l with
  | nil => intro ks q; simp [addAll]
  | cons p l ih =>
    intro ks q
    show q ∈ addAll (addK ks p) l ↔ _
    rw [ih, mem_addK, List.mem_cons, or_assoc]
theorem addK_nodup {ks : List Place} {p : Place} (h : ks.Nodup) : (addK ks p).Nodup := by
  unfold addK
  split
  · exact h
  · rename_i hp
    rw [List.nodup_append]
    exact ⟨h, (List.nodup_cons.mpr ⟨List.not_mem_nil, List.nodup_nil⟩), fun a ha b hb e => by
      rw [List.mem_singleton] at hb
      exact hp (by rw [← hb, ← e]; exact ha)⟩
theorem addAll_nodup {l : List Place} : ∀ {ks : List Place}, ks.Nodup → (addAll ks l).Nodup := by
  induction l with
  | nil => intro ks h; exact h
  | cons p l ih => intro ks h; exact ih (addK_nodup h)
theorem addK_len {ks : List Place} {p : Place} : (addK ks p).length ≤ ks.length + 1 := by
  unfold addK
  split <;> simp
theorem addAll_len {l : List Place} : ∀ {ks : List Place}, (addAll ks l).length ≤ ks.length + l.length := by
  induction l with
  | nil => intro ks; simp [addAll]
  | cons p l ih =>
    intro ks
    have h1 := ih (ks := addK ks p)
    have h2 := addK_len (ks := ks) (p := p)
    show (addAll (addK ks p) l).length ≤ _
    rw [List.length_cons]
    omega
theorem addAll_app {ks l m : List Place} : addAll ks (l ++ m) = addAll (addAll ks l) m := List.foldl_append ..
def layer (t : Tr) : Nat → List Place
  | 0 => if startP t ∈ banL t then [] else [startP t]
  | k + 1 => sortP (addAll [] ((layer t k).flatMap (nextB t)))
def steps (t : Tr) : Nat := (t.l - t.e).toNat
def reachN (t : Tr) (n : Nat) : List (Place × List Place) := (List.range n).flatMap fun k => (layer t k).map fun p => (p, nextB t p)
def reach (t : Tr) : List (Place × List Place) := reachN t (steps t + 1)
theorem reachN_succ (t : Tr) (n : Nat) : reachN t (n + 1) = reachN t n ++ (layer t n).map fun p => (p, nextB t p) := by
  unfold reachN
  rw [List.range_succ, List.flatMap_append]
  simp
/-- a place where the trip may be -/
structure May (t : Tr) (p : Place) : Prop where
  spot : p ∈ spots t.s
  lo : t.e ≤ p.1
  hi : p.1 ≤ t.l
  ban : p ∉ banL t
theorem mem_nbrs {s : Sea} {c d : Cell} (h : d ∈ nbrs s c) : d ∈ cells s := by
  have := List.mem_filter.mp h
  simpa using this.2
theorem mem_nextT {t : Tr} {p o : Place} (hp : p ∈ spots t.s) (h : o ∈ nextT t p) : o.1 = p.1 + 1 ∧ o.2 ∈ cells t.s ∧ p.1 ≠ t.l := by
  unfold nextT at h
  split at h
  · cases h
  · rename_i hl
    obtain ⟨c, hc, rfl⟩ := List.mem_map.mp h
    refine ⟨rfl, ?_, hl⟩
    have hc := (List.mergeSort_perm (p.2 :: nbrs t.s p.2) _).mem_iff.mp hc
    rcases List.mem_cons.mp hc with e | hc
    · have := (mem_spots.mp hp).2.2
      rw [← e] at this
      exact this
    · exact mem_nbrs hc
theorem mem_nextB {t : Tr} {p o : Place} (h : o ∈ nextB t p) : o ∈ nextT t p ∧ o ∉ banL t := by
  unfold nextB at h
  unfold banL
  split at h
  · rename_i hb
    rw [hb]
    exact ⟨h, by simp⟩
  · rename_i ps hb
    rw [hb]
    have := List.mem_filter.mp h
    exact ⟨this.1, by simpa using this.2⟩
theorem nextB_len (t : Tr) (p : Place) : (nextB t p).length ≤ 5 := by
  unfold nextB
  split
  · exact nextT_len t p
  · exact Nat.le_trans (List.length_filter_le _ _) (nextT_len t p)
theorem may_next {t : Tr} (ok : TrOk t) {p o : Place} (m : May t p) (h : o ∈ nextB t p) : May t o ∧ o.1 = p.1 + 1 := by
  obtain ⟨h1, h2⟩ := mem_nextB h
  obtain ⟨e1, e2, e3⟩ := mem_nextT m.spot h1
  have a1 := m.lo
  have a2 := m.hi
  have a3 := ok.ll
  have a4 := (mem_spots.mp m.spot).1
  exact ⟨⟨mem_spots.mpr ⟨by omega, by omega, e2⟩, by omega, by omega, h2⟩, e1⟩
theorem may_start {t : Tr} (ok : TrOk t) (h : startP t ∉ banL t) : May t (startP t) := by
  have h1 := ok.e0
  have h2 := ok.el
  have h3 := ok.ll
  exact ⟨mem_spots.mpr ⟨h1, by show t.e ≤ _; omega, ok.a⟩, Int.le_refl _, h2, h⟩
theorem layer_may {t : Tr} (ok : TrOk t) : ∀ (k : Nat) (p : Place), p ∈ layer t k → May t p ∧ p.1 = t.e + k
  | 0, p, h => by
    unfold layer at h
    split at h
    · cases h
    · rename_i hb
      rw [List.mem_singleton] at h
      subst h
      exact ⟨may_start ok hb, by show t.e = t.e + ((0 : Nat) : Int); omega⟩
  | k + 1, p, h => by
    unfold layer at h
    rw [mem_sortP, mem_addAll] at h
    rcases h with h | h
    · cases h
    · obtain ⟨q, hq, hp⟩ := List.mem_flatMap.mp h
      obtain ⟨m, e⟩ := layer_may ok k q hq
      obtain ⟨m2, e2⟩ := may_next ok m hp
      refine ⟨m2, ?_⟩
      rw [e2, e]
      omega
theorem layer_nodup (t : Tr) : ∀ k : Nat, (layer t k).Nodup
  | 0 => by
    unfold layer
    split
    · exact List.nodup_nil
    · exact (List.nodup_cons.mpr ⟨List.not_mem_nil, List.nodup_nil⟩)
  | k + 1 => by
    unfold layer
    exact (sortP_perm _).nodup_iff.mpr (addAll_nodup List.nodup_nil)
theorem flat_len {α β : Type} {f : α → List β} {c : Nat} (h : ∀ x, (f x).length ≤ c) : ∀ l : List α, (l.flatMap f).length ≤ c * l.length
  | [] => by simp
  | x :: l => by
    have h1 := h x
    have h2 := flat_len h l
    rw [List.flatMap_cons, List.length_append, List.length_cons, Nat.mul_succ]
    omega
theorem layer_len (t : Tr) : ∀ k : Nat, (layer t k).length ≤ 5 ^ k
  | 0 => by
    unfold layer
    split <;> simp
  | k + 1 => by
    have ih := layer_len t k
    unfold layer
    have h1 := (sortP_perm (addAll [] ((layer t k).flatMap (nextB t)))).length_eq
    have h2 := addAll_len (ks := []) (l := (layer t k).flatMap (nextB t))
    have h3 := flat_len (nextB_len t) (layer t k)
    rw [h1, Nat.pow_succ]
    simp only [List.length_nil] at h2
    omega
theorem layer_end {t : Tr} (ok : TrOk t) {k : Nat} (h : steps t < k) : layer t k = [] := by
  cases e : layer t k with
  | nil => rfl
  | cons p l =>
    obtain ⟨m, e1⟩ := layer_may ok k p (by rw [e]; exact List.mem_cons_self ..)
    have := m.hi
    unfold steps at h
    omega
theorem layer_nil {t : Tr} {k : Nat} (h : layer t k = []) : ∀ j, k ≤ j → layer t j = []
  | 0, hj => by
    have : k = 0 := by omega
    rw [← this]
    exact h
  | j + 1, hj => by
    by_cases e : k = j + 1
    · rw [← e]
      exact h
    · have := layer_nil h j (by omega)
      unfold layer
      rw [this]
      simp [addAll, sortP]
theorem reach_nil {t : Tr} {k n : Nat} (h : layer t k = []) (hk : k ≤ n) : reachN t n = reachN t k := by
  induction n with
  | zero =>
    have : k = 0 := by omega
    rw [this]
  | succ n ih =>
    by_cases e : k = n + 1
    · rw [e]
    · rw [reachN_succ, ih (by omega), layer_nil h n (by omega)]
      simp
theorem steps_le {t : Tr} (ok : TrOk t) : steps t ≤ 3 := by
  have h1 := ok.e0
  have h2 := ok.ll
  have h3 := ok.sea.gl
  unfold steps
  unfold Sea.last at h2
  omega
end Sky

set_option Elab.async false
set_option linter.all false
set_option maxRecDepth 100000
set_option maxHeartbeats 4000000
/-! reached_moves. -/
namespace Sky
open PySem PySem.Spec PyProof.Rows L2
/-- what a dict of moves holds -/
def Mv (H : Hp) (kvs : List (List Key × V)) (ms : List (Place × List Place)) : Prop := kvs.map Prod.fst = ms.map (fun m => kP m.1) ∧ RpA H (kvs.map Prod.snd) (ms.map fun m => dPs m.2)
theorem Mv.nil {H : Hp} : Mv H [] [] := ⟨rfl, .nil⟩
theorem Mv.mono {H H' : Hp} {kvs : List (List Key × V)} {ms : List (Place × List Place)} (s : Sd H H') (h : Mv H kvs ms) : Mv H' kvs ms := ⟨h.1, h.2.mono s⟩
theorem Mv.snoc {H : Hp} {kvs : List (List Key × V)} {ms : List (Place × List Place)} {p : Place} {ns : List Place} {v : V} (h : Mv H kvs ms) (r : Rp H v (dPs ns)) : Mv H (kvs ++ [(kP p, v)]) (ms ++ [(p, ns)]) := by
  refine ⟨by rw [List.map_append, List.map_append, h.1]; rfl, ?_⟩
  rw [List.map_append, List.map_append]
  exact h.2.app (.one r)
theorem Mv.len {H : Hp} {kvs : List (List Key × V)} {ms : List (Place × List Place)} (h : Mv H kvs ms) : kvs.length = ms.length := by
  have := congrArg List.length h.1
  simpa using this
theorem Mv.notin {H : Hp} {kvs : List (List Key × V)} {ms : List (Place × List Place)} {p : Place} (h : Mv H kvs ms) (n : p ∉ ms.map Prod.fst) : kP p ∉ kvs.map Prod.fst := by
  rw [h.1]
  intro z
  obtain ⟨m, hm, e⟩ := List.mem_map.mp z
  exact n (by rw [← kP_inj e]; exact List.mem_map_of_mem hm)
/-- what a list of moves says of a place -/
def lk (ms : List (Place × List Place)) (p : Place) : Option (List Place) := (ms.find? fun m => decide (m.1 = p)).map Prod.snd
theorem Mv.get {H : Hp} : ∀ {kvs : List (List Key × V)} {ms : List (Place × List Place)}, Mv H kvs ms → ∀ p : Place, match lk ms p with
    | some ns => ∃ v, valV kvs (kP p) = some v ∧ Rp H v (dPs ns)
    | none => valV kvs (kP p) = none
  | [], [], _, p => rfl
  | [], _ :: _, h, _ => by have := h.1; simp at this
  | _ :: _, [], h, _ => by have := h.1; simp at this
  | (k, v) :: kvs, (q, ns) :: ms, h, p => by
    have h1 := h.1
    rw [List.map_cons, List.map_cons, List.cons.injEq] at h1
    cases h.2 with
    | cons r t =>
      have hk : k = kP q := h1.1
      subst hk
      by_cases e : q = p
      · subst e
        have e1 : lk ((q, ns) :: ms) q = some ns := by simp [lk]
        rw [e1]
        exact ⟨v, by simp [valV], r⟩
      · have e1 : lk ((q, ns) :: ms) p = lk ms p := by simp [lk, List.find?, e]
        have e2 : valV ((kP q, v) :: kvs) (kP p) = valV kvs (kP p) := by
          have : ¬ kP q = kP p := fun z => e (kP_inj z)
          simp [valV, List.find?, this]
        rw [e1, e2]
        exact Mv.get ⟨h1.2, t⟩ p
def mvI (ms : List (Place × List Place)) : Item := exI (fun p : Addr × List (List Key × V) => andI (dtI p.1 p.2) ⟨fun _ H => Mv H p.2 ms, fun s h => h.mono (Sd.of s)⟩) fun _ => True
theorem lk_mem {ms : List (Place × List Place)} {p : Place} {ns : List Place} (nd : (ms.map Prod.fst).Nodup) (h : (p, ns) ∈ ms) : lk ms p = some ns := by
  induction ms with
  | nil => cases h
  | cons m ms ih =>
    obtain ⟨q, l⟩ := m
    rw [List.map_cons, List.nodup_cons] at nd
    rcases List.mem_cons.mp h with e | h
    · cases e
      simp [lk]
    · have hne : ¬ q = p := fun z => nd.1 (by rw [z]; exact List.mem_map.mpr ⟨(p, ns), h, rfl⟩)
      have : lk ((q, l) :: ms) p = lk ms p := by simp [lk, List.find?, hne]
      rw [this]
      exact ih nd.2 h
theorem lk_none {ms : List (Place × List Place)} {p : Place} (h : p ∉ ms.map Prod.fst) : lk ms p = none := by
  unfold lk
  rw [Option.map_eq_none_iff, List.find?_eq_none]
  intro m hm
  have : ¬ m.1 = p := fun z => h (by rw [← z]; exact List.mem_map_of_mem hm)
  simpa using this
/-! ### lengths -/
theorem layer_625 {t : Tr} {k : Nat} (h : k ≤ 4) : (layer t k).length ≤ 625 := Nat.le_trans (layer_len t k) (Nat.le_trans (Nat.pow_le_pow_right (by decide) h) (by decide))
theorem reachN_len {t : Tr} : ∀ n, n ≤ 5 → (reachN t n).length ≤ n * 625
  | 0, _ => by simp [reachN]
  | n + 1, h => by
    have ih := reachN_len (t := t) n (by omega)
    have := layer_625 (t := t) (k := n) (by omega)
    rw [reachN_succ, List.length_append, List.length_map]
    omega
theorem mem_reachN {t : Tr} (ok : TrOk t) {n : Nat} {p : Place} (h : p ∈ (reachN t n).map Prod.fst) : ∃ k, k < n ∧ p ∈ layer t k := by
  obtain ⟨m, hm, rfl⟩ := List.mem_map.mp h
  obtain ⟨k, hk, hm⟩ := List.mem_flatMap.mp hm
  obtain ⟨q, hq, rfl⟩ := List.mem_map.mp hm
  exact ⟨k, List.mem_range.mp hk, hq⟩
theorem fresh_key {t : Tr} (ok : TrOk t) {k i : Nat} (h : i < (layer t k).length) : (layer t k)[i] ∉ (reachN t k ++ ((layer t k).take i).map fun p => (p, nextB t p)).map Prod.fst := by
  rw [List.map_append, List.mem_append]
  rintro (z | z)
  · obtain ⟨j, hj, hp⟩ := mem_reachN ok z
    have e1 := (layer_may ok j _ hp).2
    have e2 := (layer_may ok k _ (List.getElem_mem h)).2
    omega
  · rw [List.map_map] at z
    obtain ⟨p, hp, e⟩ := List.mem_map.mp z
    have e : p = (layer t k)[i] := e
    obtain ⟨j, hj, e2⟩ := List.mem_iff_getElem.mp hp
    rw [List.length_take] at hj
    rw [List.getElem_take] at e2
    have e3 : (layer t k)[j] = (layer t k)[i] := by rw [e2, e]
    have := (List.getElem_inj (layer_nodup t k)).mp e3
    omega
section
variable {A A1 B H : Hp} {a : Addr}
theorem Grow.undo (g : Grow A A1 B H) (hA : A a = none) : Grow A A1 (Sky.del B a) H :=
  ⟨fun b u e => by
    rw [del_ne (ne_of_none e hA)]
    exact g.base b u e, g.top, del_sub.trans g.sub, fun c u e n t => by
    by_cases hb : c = a
    · rw [hb]
      exact del_at
    · rw [del_ne hb]
      exact g.new c u e n t⟩
theorem same_del {B0 : Hp} (s : Same B0 B) (h : B0 a = none) : Same B0 (Sky.del B a) := fun b u e => by
  rw [del_ne (ne_of_none e h)]
  exact s b u e
theorem s_dputq {K : PySem.W.Frag} {σ : L2.St} {D : Ends} {td ty tv : TE} {tu : TS} {I : Item} {kvs : List (List Key × V)} {is : List Int} (hv : Ev tv σ B I) (s : Same B H) (hd : ∀ B1 H1, Grow B H B1 H1 → ∀ Q : VK, Q (.ref a) H1 → td σ H1 Q) (hk : EvD ty σ B (dI is)) (ha : B a = none) (eH : H a = some (.dT kvs)) (hl : kvs.length < sizeLine)
    (k : ∀ v B1 H1, Grow B H B1 H1 → I.P v B1 → B1 a = none → H1 a = some (.dT kvs) → tu D σ (upd H1 a (.dT (putK kvs (kI is) v)))) : tSeq (sDPut td ty tv) tu D σ H := s_dputO (D := { D with nx := tu D }) hv s hd hk ha eH hl k
theorem s_newT {σ : L2.St} {D : Ends} {tu : TS} {i : Nat} (k : ∀ d, H d = none → tu D (σ.set i (some (.ref d))) (upd H d (.dT []))) : tSeq (tAsg tDNewT (gName i)) tu D σ H := fun d hd => k d hd
end
theorem put_addK {kvs : List (List Key × V)} {ks : List Place} {p : Place} {v : V} (h : kvs.map Prod.fst = ks.map kP) : (putK kvs (kP p) v).map Prod.fst = (addK ks p).map kP := by
  by_cases hp : p ∈ ks
  · have e1 : addK ks p = ks := if_pos hp
    have hin : kP p ∈ kvs.map Prod.fst := by rw [h]; exact List.mem_map_of_mem hp
    have e2 : (kvs.any fun kv => decide (kv.1 = kP p)) = true := by
      obtain ⟨kv, hk, e⟩ := List.mem_map.mp hin
      exact List.any_eq_true.mpr ⟨kv, hk, by simpa using e⟩
    unfold putK
    rw [if_pos e2, e1, ← h, List.map_map]
    apply List.map_congr_left
    intro kv _
    by_cases e : kv.1 = kP p
    · simp [e]
    · simp [e]
  · have e1 : addK ks p = ks ++ [p] := if_neg hp
    have hin : kP p ∉ kvs.map Prod.fst := fun z => by
      rw [h] at z
      obtain ⟨q, hq, e⟩ := List.mem_map.mp z
      exact hp (kP_inj e ▸ hq)
    rw [putK_new hin, e1, List.map_append, List.map_append, h]
    rfl
section
variable {P : Program} {w : World} {K : PySem.W.Frag} {mg : Str → Option Value} {base : Heap} {W : Wd}
/-- what is known of a trip that is walked -/
structure WkOk (t : Tr) : Prop where
  ok : TrOk t
theorem mayB_start {t : Tr} (ok : TrOk t) : mayB t (dP (startP t)) = true := by
  have h1 := ok.e0
  have h2 := ok.el
  have h3 := ok.ll
  have : startP t ∈ spots t.s := mem_spots.mpr ⟨h1, by show t.e ≤ _; omega, ok.a⟩
  show (decide (startP t ∈ spots t.s) && (decide (t.e ≤ t.e) && decide (t.e ≤ t.l))) = true
  rw [decide_eq_true this, decide_eq_true (Int.le_refl _), decide_eq_true h2]
  rfl
theorem ev_may {σ : L2.St} {H : Hp} {ta : TE} {tr : TA} {t : Tr} {d : PyData} (h : Ev ta σ H (trI W t)) (ha : EvA tr σ H [dt d]) (ok : TrOk t) : EvD (tEi (tMeth W.ct "may_be" (spMayT W) [] C8.E0 ta tr) (tMeth W.cg "may_be" (spMayG W) [] C8.E0 ta tr)) σ H (.bool (mayG t d)) := by
  cases hb : t.ban with
  | none =>
    refine ev_l ((ev_meth (I := trI W t) (t, d) h (fun v A ⟨x, dx, c, st, gl, e, q, r⟩ => ?_) ha rfl ok).is ?_)
    · rcases r with ⟨r1, r2⟩ | ⟨ps, dd, kvs, r1, r2, r3, r4⟩
      · exact ⟨x, dx, _, e, r2, rfl⟩
      · rw [hb] at r1
        cases r1
    · show PyData.bool (mayB t d) = PyData.bool (mayB t d && !banned t d)
      unfold banned
      rw [hb]
      simp
  | some ps =>
    refine ev_r (ev_meth (I := trI W t) (t, d) h (fun v A ⟨x, dx, c, st, gl, e, q, r⟩ => ?_) ha rfl ⟨ok, ps, hb⟩)
    rcases r with ⟨r1, r2⟩ | ⟨ps, dd, kvs, r1, r2, r3, r4⟩
    · rw [hb] at r1
      cases r1
    · exact ⟨x, dx, _, e, r2, rfl⟩
theorem ev_next {σ : L2.St} {H : Hp} {ta : TE} {tr : TA} {t : Tr} {p : Place} (h : Ev ta σ H (trI W t)) (ha : EvA tr σ H [dt (dP p)]) (ok : TrOk t) (m : May t p) : EvD (tEi (tMeth W.ct "next_places" (spNextT W) [] C8.E0 ta tr) (tMeth W.cg "next_places" (spNextG W) [] C8.E0 ta tr)) σ H (dPs (nextB t p)) := by
  cases hb : t.ban with
  | none =>
    refine ev_l ((ev_meth (I := trI W t) (t, p) h (fun v A ⟨x, dx, c, st, gl, e, q, r⟩ => ?_) ha rfl ⟨ok, m.spot, m.lo, m.hi⟩).is ?_)
    · rcases r with ⟨r1, r2⟩ | ⟨ps, dd, kvs, r1, r2, r3, r4⟩
      · exact ⟨x, dx, _, e, r2, rfl⟩
      · rw [hb] at r1
        cases r1
    · unfold nextB
      rw [hb]
  | some ps =>
    refine ev_r (ev_meth (I := trI W t) (t, p) h (fun v A ⟨x, dx, c, st, gl, e, q, r⟩ => ?_) ha rfl ⟨ok, ⟨ps, hb⟩, m.spot, m.lo, m.hi⟩)
    rcases r with ⟨r1, r2⟩ | ⟨ps, dd, kvs, r1, r2, r3, r4⟩
    · rw [hb] at r1
      cases r1
    · exact ⟨x, dx, _, e, r2, rfl⟩
theorem mayG_start {t : Tr} (ok : TrOk t) : mayG t (dP (startP t)) = !decide (startP t ∈ banL t) := by
  unfold mayG
  rw [mayB_start ok, Bool.true_and]
  congr 1
  unfold banL
  cases hb : t.ban with
  | none =>
    unfold banned
    rw [hb]
    simp
  | some ps => exact banned_dP hb _
abbrev spReach (W : Wd) : Sp := SpF (fun t : Tr => [trI W t]) TrOk fun t => mvI (reach t)
theorem sc_reached_moves : FnScope ["trip", "start", "moves", "layer", "following", "place", "other"] ["trip"] (defScope s_reached_moves) := C8.fnScope_by (by decide +kernel)
theorem ok_reached_moves (T : Bt mg) (Z : Kc K mg W) (cstart_place : C8.Cal P w K mg base 1 "start_place" (spStart W) []) (mTmay_be : C8.Met P w K mg base 5 W.ct "may_be" (spMayT W) []) (mGmay_be : C8.Met P w K mg base 6 W.cg "may_be" (spMayG W) []) (mTnext_places : C8.Met P w K mg base 5 W.ct "next_places" (spNextT W) []) (mGnext_places : C8.Met P w K mg base 6 W.cg "next_places" (spNextG W) []) (F : Dfn K mg "reached_moves" s_reached_moves ["trip"]) : C8.Cal P w K mg base 8 "reached_moves" (spReach W) [] := by
  have sc := sc_reached_moves
  refine F.cal sc (SpF.len fun _ => rfl) fun f cdv A outer s H vs Q E hr hsp => ?_
  refine ⟨_, (pss_cons (ps_set (i := 1) sc.nd rfl (by first | exact Or.inl rfl | exact Or.inr rfl) (C8.pe_c cstart_place hr (by decide) (by rfl) (pa_cons (pv 0) pa_nil)))
    (pss_cons (ps_set (i := 2) sc.nd rfl (by first | exact Or.inl rfl | exact Or.inr rfl) pe_dnewT)
    (pss_cons (ps_set (i := 3) sc.nd rfl (by first | exact Or.inl rfl | exact Or.inr rfl) (pe_ifExp (pt_val (pe_ei (C8.pe_mt mTmay_be hr (by decide) (pv 0) (pa_cons (pv 1) pa_nil)) (C8.pe_mt mGmay_be hr (by decide) (pv 0) (pa_cons (pv 1) pa_nil)))) (pe_lst (pa_cons (pv 1) pa_nil)) (pe_lst pa_nil)))
    (pss_cons (ps_while PassesOwn.never (pt_truth (pv 3) (by intro _; rfl))
      (pss_cons (ps_set (i := 4) sc.nd rfl (by first | exact Or.inl rfl | exact Or.inr rfl) pe_dnewT)
      (pss_cons (ps_for PassesOwn.never rfl (pi_list (pv 3)) (pg_name (i := 5) sc.nd rfl (by first | exact Or.inl rfl | exact Or.inr rfl))
        (pss_cons (ps_dput (hu_of hr) (pv 2) (pv 5) (pe_ei (C8.pe_mt mTnext_places hr (by decide) (pv 0) (pa_cons (pv 5) pa_nil)) (C8.pe_mt mGnext_places hr (by decide) (pv 0) (pa_cons (pv 5) pa_nil))) rfl)
        (pss_one (ps_for PassesOwn.never rfl (pi_list (pe_dget (hu_of hr) (pv 2) (pv 5) (fun _ _ => rfl))) (pg_name (i := 6) sc.nd rfl (by first | exact Or.inl rfl | exact Or.inr rfl))
          (pss_one (ps_dput (hu_of hr) (pv 4) (pv 6) pe_bl rfl))))))
      (pss_one (ps_set (i := 3) sc.nd rfl (by first | exact Or.inl rfl | exact Or.inr rfl) (pe_callB (cr_sortedD (hud hr)) (by rfl) T.n_sorted bb_sorted (pa_cons (pe_callTy (call_list_dT rfl) (by rfl) T.n_list bb_list (pa_cons (pv 4) pa_nil)) pa_nil)))))))
    (pss_one (ps_ret (pv 2))))))), ?_⟩
  obtain ⟨t, B, hp, s0, ha, q⟩ := hsp
  dsimp only at hp ha q
  obtain ⟨v1, rfl, h1⟩ := ita1 ha
  have ok : TrOk t := hp
  have st3 := steps_le ok
  refine s_set (ev_call t (ea1 (ev_var h1)) trivial) s0 fun vs B1 H1 g1 p1 => ?_
  refine s_newT fun dm hdm => ?_
  have bm : B1 dm = none := g1.sub.free hdm
  have hm0 : H dm = none := g1.top.free hdm
  have g2 : Grow B H B1 (upd H1 dm (.dT [])) := g1.put hm0 bm
  refine s_set (I := dt (dPs (layer t 0))) (ev_if (b := mayG t (dP (startP t))) (et_B (ev_may (ev_var ((trI W t).mono g2.base h1)) (ea1 (ev_var p1)) ok)) (fun e => ?_) fun e => ?_) g2.sub fun vl B3 H3 g3 p3 => ?_
  · have hb : startP t ∉ banL t := by
      rw [mayG_start ok] at e
      simpa using e
    refine (ev_lst (ds := [dP (startP t)]) (ea1 (ev_var p1)) (by show 1 ≤ 100000; decide)).is ?_
    rw [show layer t 0 = [startP t] from if_neg hb]
    rfl
  · have hb : startP t ∈ banL t := by
      rw [mayG_start ok] at e
      simpa using e
    refine (ev_lst (ds := []) ea_nil (by decide)).is ?_
    rw [show layer t 0 = [] from if_pos hb]
    rfl
  have km := g3.kept bm (upd_same (H := H1) (a := dm) (o := .dT []))
  refine s_whileq (fun m σ Bk Hk => ∃ k, m = steps t + 1 - k ∧ k ≤ steps t + 1 ∧ (∃ a b c vl, σ = [some v1, some vs, some (.ref dm), some vl, a, b, c] ∧ Rp Bk vl (dPs (layer t k))) ∧ Grow B H Bk Hk ∧ Bk dm = none ∧ ∃ kvs, Hk dm = some (.dT kvs) ∧ Mv Bk kvs (reachN t k))
    (m0 := steps t + 1) ⟨0, rfl, Nat.zero_le _, ⟨_, _, _, vl, rfl, p3⟩, g2.trans g3, km.1, [], km.2, Mv.nil⟩ ?_
  rintro m _ Bk Hk ⟨k, rfl, hk, ⟨a, b, c, vl, rfl, pl⟩, gk, bk, kvs, eh, mv⟩
  refine ⟨!((layer t k).map dP).isEmpty, et_lst (ev_var (I := dt (dPs (layer t k))) pl), gk.sub, fun e B4 H4 g4 => ?_, fun e B4 H4 g4 => ?_⟩
  · have hne : layer t k ≠ [] := fun z => by
      rw [z] at e
      cases e
    have hk2 : k < steps t + 1 := by
      by_cases z : k < steps t + 1
      · exact z
      · exact absurd (layer_end ok (by omega)) hne
    have hlen := layer_625 (t := t) (k := k) (by omega)
    have k4 := g4.kept bk eh
    have gk4 := gk.trans g4
    refine s_newT fun df hdf => ?_
    have bf : B4 df = none := g4.sub.free hdf
    have hf0 : H df = none := gk4.top.free hdf
    have nfm : df ≠ dm := fun z => by
      subst z
      rw [k4.2] at hdf
      cases hdf
    have g5 : Grow B H B4 (upd H4 df (.dT [])) := gk4.put hf0 bf
    have pl4 : Rp B4 vl (dPs (layer t k)) := Rp.mono (Sd.of g4.base) pl
    refine s_forq (wk_list (ds := (layer t k).map dP) (ev_var (I := dt (dPs (layer t k))) pl4)) g5.sub fun B6 H6 g6 =>
      ⟨fun i σ Bi Hi => (∃ x y, σ = [some v1, some vs, some (.ref dm), some vl, some (.ref df), x, y]) ∧ Grow B H Bi Hi ∧ Bi dm = none ∧ Bi df = none ∧ (∃ kvs, Hi dm = some (.dT kvs) ∧ Mv Bi kvs (reachN t k ++ ((layer t k).take i).map fun p => (p, nextB t p))) ∧
        ∃ fvs, Hi df = some (.dT fvs) ∧ fvs.map Prod.fst = (addAll [] (((layer t k).take i).flatMap (nextB t))).map kP, ?_, ?_, ?_⟩
    · have k6 := g6.kept (a := dm) (o := .dT kvs) k4.1 (by rw [upd_ne nfm.symm]; exact k4.2)
      have f6 := g6.kept (a := df) (o := .dT []) bf upd_same
      exact ⟨⟨_, _, rfl⟩, g5.trans g6, k6.1, f6.1, ⟨kvs, k6.2, by simpa using mv.mono (Sd.of (g4.base.trans g6.base))⟩, [], f6.2, rfl⟩
    · rintro i x _ B7 H7 B8 H8 l ⟨⟨x0, y0, rfl⟩, gi, bim, bfi, ⟨kv7, eh7, mv7⟩, fv7, ef7, fk7⟩ s7 g8 px
      rw [List.length_map] at l
      have px : Rp B8 x (((layer t k).map dP).getD i .none) := px
      rw [getD_mapf l] at px
      refine ⟨_, gt_name, ?_⟩
      have kp := layer_may ok k _ (List.getElem_mem l)
      have m8 := g8.kept bim eh7
      have f8 := g8.kept bfi ef7
      have gi8 := gi.trans g8
      have lk7 := mv7.len
      have r3 := reachN_len (t := t) k (by omega)
      have hfr := fresh_key ok l
      refine s_dputq (K := K) (is := [((layer t k)[i]).1, ((layer t k)[i]).2.1, ((layer t k)[i]).2.2]) (ev_next (p := (layer t k)[i]) (ev_var ((trI W t).mono gi8.base h1)) (ea1 (ev_var (I := dt (dP (layer t k)[i])) px)) ok kp.1) g8.sub (fun B1 H1 g1 Q q => ⟨_, rfl, q⟩) (ev_var (I := dt (dP (layer t k)[i])) px) m8.1 m8.2 ?_ fun v B9 H9 g9 pv b9 e9 => ?_
      · rw [lk7, List.length_append, List.length_map, List.length_take]
        exact Nat.lt_of_le_of_lt (by omega : _ ≤ 10000) (by decide)
      · rw [show kI [((layer t k)[i]).1, ((layer t k)[i]).2.1, ((layer t k)[i]).2.2] = kP (layer t k)[i] from rfl, putK_new (Mv.notin mv7 hfr)]
        have pv : Rp B9 v (dPs (nextB t (layer t k)[i])) := pv
        have mv9 : Mv B9 (kv7 ++ [(kP (layer t k)[i], v)]) (reachN t k ++ ((layer t k).take (i + 1)).map fun p => (p, nextB t p)) := by
          have := (mv7.mono (Sd.of (g8.base.trans g9.base))).snoc (p := (layer t k)[i]) pv
          rw [List.take_succ, List.getElem?_eq_getElem l, List.map_append, ← List.append_assoc]
          exact this
        have f9 := g9.kept f8.1 f8.2
        have gi9 := gi8.trans g9
        generalize hkv : kv7 ++ [(kP (layer t k)[i], v)] = kv9 at mv9 ⊢
        have hval : valV kv9 (kP (layer t k)[i]) = some v := by
          have := Mv.get mv9 (layer t k)[i]
          rw [← hkv, ← putK_new (v := v) (Mv.notin mv7 hfr), valV_put, if_pos rfl]
        have gc : Grow B H (upd B9 dm (.dT kv9)) (upd H9 dm (.dT kv9)) := (gi9.put hm0 b9).commit hm0 b9 upd_same
        have pxc : Rp (upd B9 dm (.dT kv9)) x (dP (layer t k)[i]) := Rp.mono (Sd.of ((g9.base).trans (same_new b9))) px
        have pvc : Rp (upd B9 dm (.dT kv9)) v (dPs (nextB t (layer t k)[i])) := Rp.mono (Sd.of (same_new b9)) pv
        have fmB : (upd B9 dm (.dT kv9)) df = none := by rw [upd_ne nfm]; exact f9.1
        have fmH : (upd H9 dm (.dT kv9)) df = some (.dT fv7) := by rw [upd_ne nfm]; exact f9.2
        refine s_for (wk_list (ds := (nextB t (layer t k)[i]).map dP) (ev_dget (J := dt (dPs (nextB t (layer t k)[i]))) (is := [((layer t k)[i]).1, ((layer t k)[i]).2.1, ((layer t k)[i]).2.2]) (ev_var (I := dtI dm kv9) ⟨rfl, upd_same⟩) (ev_var (I := dt (dP (layer t k)[i])) pxc) hval pvc)) gc.sub fun B10 H10 g10 =>
          ⟨fun j σ Bj Hj => (∃ z, σ = [some v1, some vs, some (.ref dm), some vl, some (.ref df), some x, z]) ∧ Grow B H Bj Hj ∧ Bj df = none ∧ ∃ fvs, Hj df = some (.dT fvs) ∧ fvs.map Prod.fst = (addAll (addAll [] (((layer t k).take i).flatMap (nextB t))) ((nextB t (layer t k)[i]).take j)).map kP, ?_, ?_, ?_⟩
        · have f10 := g10.kept fmB fmH
          exact ⟨⟨_, rfl⟩, gc.trans g10, f10.1, fv7, f10.2, by rw [fk7]; rfl⟩
        · rintro j o _ B11 H11 B12 H12 lj ⟨⟨z0, rfl⟩, gj, bjf, fv, efj, fkj⟩ s11 g12 po
          rw [List.length_map] at lj
          have po : Rp B12 o (((nextB t (layer t k)[i]).map dP).getD j .none) := po
          rw [getD_mapf lj] at po
          refine ⟨_, gt_name, ?_⟩
          have f12 := g12.kept bjf efj
          have hl1 := nextB_len t (layer t k)[i]
          refine s_dputO (is := [((nextB t (layer t k)[i])[j]).1, ((nextB t (layer t k)[i])[j]).2.1, ((nextB t (layer t k)[i])[j]).2.2]) (ev_bl (b := true)) g12.sub (fun B1 H1 g1 Q q => ⟨_, rfl, q⟩) (ev_var (I := dt (dP (nextB t (layer t k)[i])[j])) po) f12.1 f12.2 ?_ fun v' B13 H13 g13 _ b13 e13 => ?_
          · have e1 := congrArg List.length fkj
            rw [List.length_map, List.length_map] at e1
            have e2 := addAll_len (ks := addAll [] (((layer t k).take i).flatMap (nextB t))) (l := (nextB t (layer t k)[i]).take j)
            have e3 := addAll_len (ks := []) (l := ((layer t k).take i).flatMap (nextB t))
            have e4 := flat_len (nextB_len t) ((layer t k).take i)
            rw [List.length_take] at e2 e4
            simp only [List.length_nil] at e3
            exact Nat.lt_of_le_of_lt (by omega : _ ≤ 10000) (by decide)
          · refine ⟨B13, s11.trans (g12.base.trans g13.base), Same.put ((gj.trans g12).trans g13).sub b13, ⟨_, rfl⟩, ((gj.trans g12).trans g13).put hf0 b13, b13, _, upd_same, ?_⟩
            rw [show kI [((nextB t (layer t k)[i])[j]).1, ((nextB t (layer t k)[i])[j]).2.1, ((nextB t (layer t k)[i])[j]).2.2] = kP (nextB t (layer t k)[i])[j] from rfl, List.take_succ, List.getElem?_eq_getElem lj, addAll_app]
            exact put_addK fkj
        · rintro _ B11 H11 ⟨⟨z0, rfl⟩, gj, bjf, fv, efj, fkj⟩ s11 s12
          rw [List.length_map, List.take_length] at fkj
          have sB : Same B9 (Sky.del B11 dm) := same_del ((same_new b9).trans (g10.base.trans s11)) b9
          have s6 : Same B6 B9 := s7.trans (g8.base.trans g9.base)
          refine ⟨Sky.del B11 dm, s6.trans sB, (gj.undo (g1.base.free bm)).sub, ⟨_, _, rfl⟩, gj.undo (g1.base.free bm), del_at, by rw [del_ne nfm]; exact bjf, ⟨kv9, s12 _ _ (s11 _ _ (g10.base _ _ upd_same)), mv9.mono (Sd.of sB)⟩, fv, efj, ?_⟩
          rw [fkj, List.take_succ, List.getElem?_eq_getElem l, List.flatMap_append, addAll_app]
          simp
    · rintro _ B7 H7 ⟨⟨x0, y0, rfl⟩, gi, bim, bfi, ⟨kv7, eh7, mv7⟩, fv7, ef7, fk7⟩ s7 s8
      rw [List.length_map, List.take_length] at mv7 fk7
      have hul := addAll_len (ks := []) (l := (layer t k).flatMap (nextB t))
      have hfl := flat_len (nextB_len t) (layer t k)
      simp only [List.length_nil] at hul
      have E : ∀ Q : VK, (∀ v B1 H1, Grow B7 H7 B1 H1 → Rp B1 v (dPs (layer t (k + 1))) → Q v H1) → tCB rSrt (tCons (tCB rLd (tCons (tVar 4) tNil)) tNil) [some v1, some vs, some (.ref dm), some vl, some (.ref df), x0, y0] H7 Q := fun Q q => by
        show tCB rLd (tCons (tVar 4) tNil) [some v1, some vs, some (.ref dm), some vl, some (.ref df), x0, y0] H7 (fun v H' => rSrt [v] H' Q)
        refine ev_listO (is := (addAll [] ((layer t k).flatMap (nextB t))).map fun p => [p.1, p.2.1, p.2.2]) gi.sub (fun Q q => ⟨_, rfl, q⟩) ef7 (by rw [fk7, List.map_map]; rfl) fun u B8 H8 g8 pu => ?_
        rw [List.map_map] at pu
        have pu : Rp B8 u (.list ((addAll [] ((layer t k).flatMap (nextB t))).map dP)) := pu
        refine (ev_sorted (σ := [some v1]) (te := tC u) (ev_c pu) (alike_dP _) (sortable_dP _) ?_ ?_) H8 g8.sub Q fun v B9 H9 g9 pv => q v B9 H9 (g8.trans g9) ?_
        · rw [List.length_map]
          omega
        · intro d hd
          obtain ⟨c, _, rfl⟩ := List.mem_map.mp hd
          exact Nat.le_trans (dep_dP c) (by decide)
        · rw [← sortP_eq] at pv
          exact pv
      refine E _ fun v B8 H8 g8 pv => ?_
      have k8 := g8.kept bim eh7
      refine ⟨steps t + 1 - (k + 1), B8, by omega, k + 1, rfl, hk2, ⟨_, _, _, v, rfl, pv⟩, gi.trans g8, k8.1, kv7, k8.2, ?_⟩
      rw [reachN_succ]
      exact mv7.mono (Sd.of g8.base)
  · have hnil : layer t k = [] := by
      cases z : layer t k with
      | nil => rfl
      | cons p l =>
        rw [z] at e
        cases e
    have k4 := g4.kept bk eh
    have gf := (gk.trans g4).commit hm0 k4.1 k4.2
    have mvf : Mv (upd B4 dm (.dT kvs)) kvs (reach t) := by
      unfold reach
      rw [reach_nil hnil hk]
      exact mv.mono (Sd.of (g4.base.trans (same_new k4.1)))
    exact s_ret (ev_var (I := mvI (reach t)) ⟨(dm, kvs), trivial, ⟨rfl, upd_same⟩, mvf⟩) gf.sub fun v B5 H5 g5 p5 => q v B5 H5 (gf.trans g5) p5
end
end Sky

set_option Elab.async false
set_option linter.all false
set_option maxRecDepth 100000
set_option maxHeartbeats 4000000
/-! way_moves. -/
namespace Sky
open PySem PySem.Spec PyProof.Rows L2
section
variable {K : PySem.W.Frag} {σ : L2.St} {H B : Hp} {te td tk tv : TE} {I : Item}
/-- while the dict at d is read, not written -/
theorem ev_lock {d : Addr} {kvs : List (List Key × V)} (hB : B d = some (.dT kvs)) (h : ∀ od, Ev te σ (upd B d (.frz od (.dT kvs))) I) (hI : ∀ v B1 od, I.P v B1 → B1 d = some (.frz od (.dT kvs)) → I.P v (upd B1 d (.dT kvs))) : Ev (tLockE te) σ B I := fun H1 s Q q =>
  ⟨d, .dT kvs, s _ _ hB, trivial, fun od => h od (upd H1 d (.frz od (.dT kvs))) (Same.both s) _ fun v B1 H2 g p => by
    have e1 : B1 d = some (.frz od (.dT kvs)) := g.base _ _ upd_same
    refine ⟨g.top _ _ upd_same, q v (upd B1 d (.dT kvs)) (upd H2 d (.dT kvs)) ⟨fun b u e => ?_, fun b u e => ?_, Same.both g.sub, fun a o e n t => ?_⟩ (hI v B1 od p e1)⟩
    · by_cases hb : b = d
      · subst hb
        rw [hB] at e
        rw [upd_same]
        exact e
      · rw [upd_ne hb]
        exact g.base b u (by rw [upd_ne hb]; exact e)
    · by_cases hb : b = d
      · subst hb
        rw [s _ _ hB] at e
        rw [upd_same]
        exact e
      · rw [upd_ne hb]
        exact g.top b u (by rw [upd_ne hb]; exact e)
    · have hb : a ≠ d := fun z => by
        subst z
        rw [hB] at e
        cases e
      rw [upd_ne hb]
      exact g.new a o (by rw [upd_ne hb]; exact e) (by rw [upd_ne hb]; exact n) t⟩
theorem s_setO {D : Ends} {tu : TS} {i : Nat} {a : Addr} {o : HO} {d : PyData} (h : EvD te σ (upd B a o) d) (n : NoSeq (some o)) (h2 : B a = none) (h3 : H a = some o) (s : Same B H) (k : ∀ v B1 H1, Grow B H B1 H1 → Rp B1 v d → tu D (σ.set i (some v)) H1) : tSeq (tAsg te (gName i)) tu D σ H :=
  evd_open (Q := fun v H1 => tu D (σ.set i (some v)) H1) h n h2 h3 s k
/-- the keys of a locked dict -/
theorem wk_keys {d : Addr} {od : Obj} {kvs : List (List Key × V)} {is : List (List Int)} (h : EvV td σ B (.ref d)) (e : B d = some (.frz od (.dT kvs))) (hk : kvs.map Prod.fst = is.map kI) : Wk (iKeys td) σ B is.length (fun i => dt (dI (is.getD i []))) := fun H1 s R r =>
  h H1 s _ fun v B2 H2 g2 p2 => by
    have hv : v = .ref d := p2
    have hl : kvs.length = is.length := by simpa using congrArg List.length hk
    refine ⟨d, od, hv, .inr ⟨kvs, g2.sub _ _ (g2.base _ _ e), r _ B2 H2 g2 ⟨fun i H' s' l => ⟨s' _ _ (g2.base _ _ e), by omega⟩, fun i H' x H'' s' l y => ?_, fun H' s' => ⟨s' _ _ (g2.base _ _ e), by omega⟩⟩⟩⟩
    obtain ⟨rfl, k, v', q, e1, rfl, e2⟩ := y
    refine ⟨_, (Grow.refl s').tx, ?_⟩
    have hki : k = kI (is.getD i []) := by
      have := congrArg (fun l => l[i]?) hk
      simp only [List.getElem?_map] at this
      rw [e1, List.getElem?_eq_getElem l] at this
      have e3 : is.getD i [] = is[i] := by simp [List.getD, l]
      rw [e3]
      exact Option.some.inj this
    subst hki
    refine .tup (tx_tup s' e2) ?_
    rw [kI, List.map_map]
    have : ∀ l : List Int, RpA (Sky.tx B2 H'') (l.map (kV ∘ Sum.inl)) (l.map PyData.int) := fun l => by
      induction l with
      | nil => exact .nil
      | cons x l ih => exact .cons (.int x) ih
    exact this _
/-- {k: v for ..}: places to lists of places, each key once -/
theorem ev_dcP {wi : TI} {g : TG} {tt : TT} {vs : List Nat} {n : Nat} {Y : Nat → Item} (f : Nat → Option (Place × List Place)) (hw : Wk wi σ H n Y) (hn : n ≤ 100000)
    (nd : ∀ i j a b, i < j → j < n → f i = some a → f j = some b → a.1 ≠ b.1)
    (body : ∀ i x B, i < n → Same H B → (Y i).P x B → ∃ σ2 b, Gt g x (wipe σ vs) B σ2 ∧ wipe σ2 vs = wipe σ vs ∧ EvT tt σ2 B b ∧ (b = false → f i = none) ∧ (b = true → ∃ m, f i = some m ∧ EvD tk σ2 B (dP m.1) ∧ EvD tv σ2 B (dPs m.2))) :
    Ev (tDcT wi g tt tk tv vs) σ H (mvI ((List.range n).filterMap f)) := by
  intro H1 s Q q
  refine hw H1 s _ fun J B H2 g2 wj => ?_
  intro D hD
  have hBD : B D = none := g2.sub.free hD
  have hD1 : H1 D = none := g2.top.free hD
  have hHD : H D = none := s.free hD1
  refine ⟨fun i m G => m = n - i ∧ i ≤ n ∧ ∃ Bi kvs, Grow H H1 Bi G ∧ Same B Bi ∧ Bi D = none ∧ G D = some (.dT kvs) ∧ Mv Bi kvs ((List.range i).filterMap f), ⟨n, by simp, Nat.zero_le _, B, [], g2.put hD1 hBD, Same.refl B, hBD, upd_same, Mv.nil⟩, ?_⟩
  rintro i m G ⟨rfl, hi, Bi, kvs, gi, sB, bD, eD, mv⟩
  by_cases hlt : i < n
  · refine .inr ⟨wj.go i G (sB.trans gi.sub) hlt, fun G' => ∃ Bi kvs, Grow H H1 Bi G' ∧ Same B Bi ∧ Bi D = none ∧ G' D = some (.dT kvs) ∧ Mv Bi kvs ((List.range (i + 1)).filterMap f), fun G' p => ⟨n - (i + 1), by omega, rfl, hlt, p⟩, fun x G1 y => ?_⟩
    obtain ⟨B1, g1, p1⟩ := (wj.mono sB).yld i G x G1 gi.sub hlt y
    have k1 := g1.kept bD eD
    obtain ⟨σ2, b, hg, hwp, ht, hf, hy⟩ := body i x B1 hlt (g2.base.trans (sB.trans g1.base)) p1
    refine hg G1 g1.sub _ ⟨hwp, ht G1 g1.sub _ fun B3 G3 g3 => ?_⟩
    have k3 := g3.kept k1.1 k1.2
    have gA := (gi.trans g1).trans g3
    have sA := sB.trans (g1.base.trans g3.base)
    have e1 : (List.range (i + 1)).filterMap f = (List.range i).filterMap f ++ (match f i with | some m => [m] | none => []) := by
      rw [List.range_succ, List.filterMap_append]
      cases h : f i <;> simp [h]
    cases b with
    | true =>
      rw [if_pos rfl]
      obtain ⟨m, hm, ek, ev⟩ := hy rfl
      refine Ev.mono g3.base ek G3 g3.sub _ fun u B4 G4 g4 p4 => ?_
      refine Ev.mono (g3.base.trans g4.base) ev G4 g4.sub _ fun v B5 G5 g5 p5 => ?_
      have k5 := (g4.trans g5).kept k3.1 k3.2
      obtain ⟨c, rfl, ec⟩ := Rp.key (is := [m.1.1, m.1.2.1, m.1.2.2]) p4
      have gB := (gA.trans g4).trans g5
      have mv5 := mv.mono (Sd.of (g1.base.trans (g3.base.trans (g4.base.trans g5.base))))
      have hnew : m.1 ∉ ((List.range i).filterMap f).map Prod.fst := fun z => by
        obtain ⟨a, ha, e⟩ := List.mem_map.mp z
        obtain ⟨j, hj, hfj⟩ := List.mem_filterMap.mp ha
        exact nd j i a m (List.mem_range.mp hj) hlt hfj hm e
      refine ⟨kvs, kP m.1, c, rfl, g5.top _ _ (g4.sub _ _ ec), k5.2, ?_, B5, kvs ++ [(kP m.1, v)], ?_, sA.trans (g4.base.trans g5.base), k5.1, ?_, ?_⟩
      · have l1 := mv.len
        have l2 := List.length_filterMap_le f (List.range i)
        rw [List.length_range] at l2
        exact Nat.lt_of_le_of_lt (by omega : _ ≤ 100000) (by decide)
      · exact gB.put hD1 k5.1
      · rw [upd_same, putK_new (Mv.notin mv5 hnew)]
      · rw [e1, hm]
        exact mv5.snoc (p := m.1) (ns := m.2) p5
    | false =>
      rw [if_neg Bool.false_ne_true]
      refine ⟨B3, kvs, gA, sA, k3.1, k3.2, ?_⟩
      rw [e1, hf rfl, List.append_nil]
      exact mv.mono (Sd.of (g1.base.trans g3.base))
  · have e : i = n := by omega
    subst e
    exact .inl ⟨wj.stop G (sB.trans gi.sub), q _ _ G (gi.commit hD1 bD eD) ⟨(D, kvs), trivial, ⟨rfl, upd_same⟩, mv.mono (Sd.of (same_new bD))⟩⟩
end
/-! ### the plain side -/
theorem snoc_ind {α : Type} {P : List α → Prop} (h0 : P []) (h1 : ∀ l a, P l → P (l ++ [a])) (l : List α) : P l := by
  have h : ∀ r : List α, P r.reverse := fun r => by
    induction r with
    | nil => exact h0
    | cons a r ih =>
      rw [List.reverse_cons]
      exact h1 _ _ ih
  have := h l.reverse
  rw [List.reverse_reverse] at this
  exact this
def keysM (ms : List (Place × List Place)) : List Place := ms.map Prod.fst
def stepO (t : Tr) (os : List (Place × List Place)) (m : Place × List Place) : List (Place × List Place) :=
  if m.2.filter (fun o => decide (o ∈ keysM os)) ≠ [] ∨ m.1 = goalP t then os ++ [(m.1, m.2.filter fun o => decide (o ∈ keysM os))] else os
def onwN (t : Tr) (l : List (Place × List Place)) : List (Place × List Place) := l.foldl (stepO t) []
def onward (t : Tr) : List (Place × List Place) := onwN t (reach t).reverse
def wayM (t : Tr) : List (Place × List Place) := (reach t).filterMap fun m => (lk (onward t) m.1).map fun ns => (m.1, ns)
theorem onwN_snoc (t : Tr) (l : List (Place × List Place)) (m : Place × List Place) : onwN t (l ++ [m]) = stepO t (onwN t l) m := by
  unfold onwN
  rw [List.foldl_append]
  rfl
theorem onwN_keys (t : Tr) : ∀ l : List (Place × List Place), ∀ p ∈ keysM (onwN t l), p ∈ keysM l := by
  intro l
  induction l using snoc_ind with
  | h0 => intro p h; exact h
  | h1 l m ih =>
    intro p h
    rw [onwN_snoc] at h
    unfold stepO at h
    unfold keysM at h ⊢
    rw [List.map_append, List.mem_append]
    split at h
    · rw [List.map_append, List.mem_append] at h
      rcases h with h | h
      · exact .inl (ih p h)
      · exact .inr h
    · exact .inl (ih p h)
theorem reachN_nodup {t : Tr} (ok : TrOk t) : ∀ n, ((reachN t n).map Prod.fst).Nodup
  | 0 => List.nodup_nil
  | n + 1 => by
    rw [reachN_succ, List.map_append, List.nodup_append]
    refine ⟨reachN_nodup ok n, ?_, fun a ha b hb e => ?_⟩
    · rw [List.map_map]
      have : (Prod.fst ∘ fun p : Place => (p, nextB t p)) = id := rfl
      rw [this, List.map_id]
      exact layer_nodup t n
    · subst e
      obtain ⟨k, hk, hp⟩ := mem_reachN ok ha
      rw [List.map_map] at hb
      obtain ⟨q, hq, e⟩ := List.mem_map.mp hb
      have e : q = a := e
      subst e
      have e1 := (layer_may ok k _ hp).2
      have e2 := (layer_may ok n _ hq).2
      omega
theorem onwN_nodup (t : Tr) : ∀ l : List (Place × List Place), (l.map Prod.fst).Nodup → (keysM (onwN t l)).Nodup := by
  intro l
  induction l using snoc_ind with
  | h0 => intro _; exact List.nodup_nil
  | h1 l m ih =>
    intro h
    rw [List.map_append, List.nodup_append] at h
    have ih := ih h.1
    rw [onwN_snoc]
    unfold stepO
    split
    · unfold keysM at ih ⊢
      rw [List.map_append, List.nodup_append]
      refine ⟨ih, (List.nodup_cons.mpr ⟨List.not_mem_nil, List.nodup_nil⟩), fun a ha b hb e => ?_⟩
      have e1 := onwN_keys t l a ha
      exact h.2.2 a e1 b (by simpa using hb) e
    · exact ih
theorem onwN_len (t : Tr) (l : List (Place × List Place)) : (onwN t l).length ≤ l.length := by
  induction l using snoc_ind with
  | h0 => exact Nat.le_refl _
  | h1 l m ih =>
    rw [onwN_snoc, List.length_append, List.length_singleton]
    unfold stepO
    split
    · rw [List.length_append, List.length_singleton]
      omega
    · omega
theorem val_onw {H : Hp} {kvs : List (List Key × V)} {ms : List (Place × List Place)} (h : Mv H kvs ms) (p : Place) : (valV kvs (kP p)).isSome = decide (p ∈ keysM ms) := by
  by_cases q : p ∈ keysM ms
  · rw [decide_eq_true q, val_some, h.1]
    obtain ⟨m, hm, e⟩ := List.mem_map.mp q
    exact List.mem_map.mpr ⟨m, hm, by rw [e]⟩
  · rw [decide_eq_false q, ← Bool.not_eq_true, val_some]
    exact Mv.notin h q
theorem reach_len {t : Tr} (ok : TrOk t) : (reach t).length ≤ 2500 := by
  have := steps_le ok
  have := reachN_len (t := t) (steps t + 1) (by omega)
  unfold reach
  omega
theorem reach_may {t : Tr} (ok : TrOk t) {m : Place × List Place} (h : m ∈ reach t) : May t m.1 ∧ m.2 = nextB t m.1 := by
  obtain ⟨k, hk, h⟩ := List.mem_flatMap.mp h
  obtain ⟨p, hp, rfl⟩ := List.mem_map.mp h
  exact ⟨(layer_may ok k p hp).1, rfl⟩
theorem keys_is (ms : List (Place × List Place)) : ms.map (fun m => kP m.1) = ((keysM ms).map fun p => [p.1, p.2.1, p.2.2]).map kI := by
  unfold keysM
  rw [List.map_map, List.map_map]
  rfl
theorem keys_dP (l : List Place) : (l.map fun p => [p.1, p.2.1, p.2.2]).map dI = l.map dP := by
  rw [List.map_map]
  rfl
def fOn (ks : List Place) : PyData → Option PyData
  | .tuple [.int a, .int b, .int c] => if (a, b, c) ∈ ks then some (dP (a, b, c)) else none
  | _ => none
theorem fOn_eq {ks : List Place} (e : Place) : fOn ks (dP e) = if e ∈ ks then some (dP e) else none := rfl
theorem fm_on {ks : List Place} (l : List Place) : (l.map dP).filterMap (fOn ks) = (l.filter fun q => decide (q ∈ ks)).map dP := by
  induction l with
  | nil => rfl
  | cons e l ih =>
    rw [List.map_cons, List.filterMap_cons, ih, fOn_eq]
    by_cases h : e ∈ ks
    · rw [if_pos h, List.filter_cons_of_pos (by simpa using h)]
      rfl
    · rw [if_neg h, List.filter_cons_of_neg (by simpa using h)]
theorem range_bind {α β : Type} (l : List α) {f : α → Option β} : (List.range l.length).filterMap (fun i => (l[i]?).bind f) = l.filterMap f := by
  induction l with
  | nil => rfl
  | cons a l ih =>
    rw [List.length_cons, List.range_succ_eq_map, List.filterMap_cons, List.filterMap_map, List.filterMap_cons]
    have e : ((fun i => ((a :: l)[i]?).bind f) ∘ Nat.succ) = fun i => (l[i]?).bind f := by
      funext i
      simp
    rw [e, ih]
    rfl
section
variable {P : Program} {w : World} {K : PySem.W.Frag} {mg : Str → Option Value} {base : Heap} {W : Wd}
/-- p in d, d a dict of moves that is known -/
theorem ev_inM {σ : L2.St} {B : Hp} {ty td : TE} {a : Addr} {kvs : List (List Key × V)} {ms : List (Place × List Place)} {p : Place} (hk : EvD ty σ B (dP p)) (hd : Ev td σ B (dtI a kvs)) (mv : Mv B kvs ms) : EvD (tDIn ty td) σ B (.bool (decide (p ∈ keysM ms))) :=
  (ev_din (is := [p.1, p.2.1, p.2.2]) hk hd).is (congrArg PyData.bool (val_onw mv p))
abbrev spWayM (W : Wd) : Sp := SpF (fun t : Tr => [trI W t]) TrOk fun t => mvI (wayM t)
theorem sc_way_moves : FnScope ["trip", "moves", "goal", "onward", "place", "following", "other"] ["trip"] (defScope s_way_moves) := C8.fnScope_by (by decide +kernel)
theorem ok_way_moves (T : Bt mg) (Z : Kc K mg W) (cgoal_place : C8.Cal P w K mg base 1 "goal_place" (spGoal W) []) (creached_moves : C8.Cal P w K mg base 8 "reached_moves" (spReach W) []) (F : Dfn K mg "way_moves" s_way_moves ["trip"]) : C8.Cal P w K mg base 9 "way_moves" (spWayM W) [] := by
  have sc := sc_way_moves
  refine F.cal sc (SpF.len fun _ => rfl) fun f cdv A outer s H vs Q E hr hsp => ?_
  refine ⟨_, (pss_cons (ps_set (i := 1) sc.nd rfl (by first | exact Or.inl rfl | exact Or.inr rfl) (C8.pe_c creached_moves hr (by decide) (by rfl) (pa_cons (pv 0) pa_nil)))
    (pss_cons (ps_set (i := 2) sc.nd rfl (by first | exact Or.inl rfl | exact Or.inr rfl) (C8.pe_c cgoal_place hr (by decide) (by rfl) (pa_cons (pv 0) pa_nil)))
    (pss_cons (ps_set (i := 3) sc.nd rfl (by first | exact Or.inl rfl | exact Or.inr rfl) pe_dnewT)
    (pss_cons (ps_for PassesOwn.never rfl (pi_reversed (by rfl) T.n_reversed (pa_cons (pe_callTy (call_list_dT rfl) (by rfl) T.n_list bb_list (pa_cons (pv 1) pa_nil)) pa_nil)) (pg_name (i := 4) sc.nd rfl (by first | exact Or.inl rfl | exact Or.inr rfl))
      (pss_cons (ps_setLc (i := 5) (own := [("other", 6)]) rfl sc.nd rfl rfl (sw_true rfl rfl rfl (by decide +kernel)) (pi_list (pe_dget (hu_of hr) (pv 1) (pv 4) (fun _ _ => rfl))) (blkOk_by (own := [("other", 6)]) (N := ["trip", "moves", "goal", "onward", "place", "following", "other"]) (sc := defScope s_way_moves) (by decide +kernel)) (fun _ _ _ _ _ => (pg_name (i := 6) sc.nd rfl (by first | exact Or.inl rfl | exact Or.inr rfl))) (fun _ _ _ _ _ => (pts_one (pt_cmp (pc_din (hu_of hr) (pv 6) (pv 3)) rfl))) (fun _ _ _ _ _ => (pv 6)))
      (pss_one (ps_if (PW.pt (pw_or (pt_truth (pv 5) (by intro _; rfl)) (pw_or1 (pt_cmpR (op_eqD (hud hr)) (pv 4) (pv 2) (nomark _))))) (pss_one (ps_dput (hu_of hr) (pv 3) (pv 4) (pv 5) rfl)) pss_nil))))
    (pss_one (ps_ret (pe_lock (pe_dcT (own := [("place", 4)]) rfl sc.nd (hu_of hr) (pi_keys (pv 1)) (blkOk_by (own := [("place", 4)]) (N := ["trip", "moves", "goal", "onward", "place", "following", "other"]) (sc := defScope s_way_moves) (by decide +kernel)) (fun _ _ _ _ _ => (pg_name (i := 4) sc.nd rfl (by first | exact Or.inl rfl | exact Or.inr rfl))) (fun _ _ _ _ _ => (pts_one (pt_cmp (pc_din (hu_of hr) (pv 4) (pv 3)) rfl))) (fun _ _ _ _ _ => (pv 4)) (fun _ _ _ _ _ => (pe_dget (hu_of hr) (pv 3) (pv 4) (fun _ _ => rfl))))))))))), ?_⟩
  obtain ⟨t, B, hp, s0, ha, q⟩ := hsp
  dsimp only at hp ha q
  obtain ⟨v1, rfl, h1⟩ := ita1 ha
  have ok : TrOk t := hp
  refine s_set (ev_call t (ea1 (ev_var h1)) ok) s0 fun vm B1 H1 g1 p1 => ?_
  obtain ⟨⟨am, mvs⟩, _, ⟨rfl, em⟩, mv⟩ := p1
  dsimp only at em mv
  have mv : Mv B1 mvs (reach t) := mv
  refine s_set (ev_call t (ea1 (ev_var ((trI W t).mono g1.base h1))) trivial) g1.sub fun vg B2 H2 g2 pg => ?_
  refine s_newT fun dn hdn => ?_
  have bn : B2 dn = none := g2.sub.free hdn
  have g12 := g1.trans g2
  have hn0 : H dn = none := g12.top.free hdn
  have g3 : Grow B H B2 (upd H2 dn (.dT [])) := g12.put hn0 bn
  have em2 := g2.base _ _ em
  have mv2 := mv.mono (Sd.of g2.base)
  have hkm : mvs.map Prod.fst = ((keysM (reach t)).map fun p => [p.1, p.2.1, p.2.2]).map kI := by rw [mv.1, keys_is]
  have rl := reach_len ok
  have nd := reachN_nodup ok (steps t + 1)
  have ndr : ((reach t).reverse.map Prod.fst).Nodup := by
    rw [List.map_reverse]
    exact (List.reverse_perm _).nodup_iff.mpr nd
  have pg : Rp B2 vg (dP (goalP t)) := pg
  refine s_forq (wk_rev (ds := (keysM (reach t)).map dP) ((ev_listT (a := am) (ev_var ⟨rfl, em2⟩) hkm).is (by rw [keys_dP]))) g3.sub fun B4 H4 g4 =>
    ⟨fun i σ Bi Hi => (∃ x y z, σ = [some v1, some (.ref am), some vg, some (.ref dn), x, y, z]) ∧ Grow B H Bi Hi ∧ Bi dn = none ∧ ∃ ovs, Hi dn = some (.dT ovs) ∧ Mv Bi ovs (onwN t ((reach t).reverse.take i)), ?_, ?_, ?_⟩
  · have k4 := g4.kept bn (upd_same (H := H2) (a := dn) (o := .dT []))
    exact ⟨⟨_, _, _, rfl⟩, g3.trans g4, k4.1, [], k4.2, Mv.nil⟩
  · rintro i x _ B5 H5 B6 H6 l ⟨⟨x0, y0, z0, rfl⟩, gi, bi, ovs, eo, mo⟩ s5 g6 px
    have l : i < (reach t).length := by rw [List.length_map] at l; unfold keysM at l; rwa [List.length_map] at l
    have lr : i < (reach t).reverse.length := by rw [List.length_reverse]; exact l
    obtain ⟨p, ns, hm⟩ : ∃ p ns, (reach t).reverse[i] = (p, ns) := ⟨_, _, rfl⟩
    have hmem : (p, ns) ∈ reach t := by
      have := List.getElem_mem lr
      rw [hm] at this
      exact List.mem_reverse.mp this
    have px : Rp B6 x ((((keysM (reach t)).map dP).reverse).getD i .none) := px
    have e1 : (((keysM (reach t)).map dP).reverse).getD i .none = dP p := by
      unfold keysM
      rw [List.map_map, ← List.map_reverse, getD_mapf lr, hm]
      rfl
    rw [e1] at px
    refine ⟨_, gt_name, ?_⟩
    have k6 := g6.kept bi eo
    have s26 : Same B2 B6 := g4.base.trans (s5.trans g6.base)
    have gi6 := gi.trans g6
    have mo6 := mo.mono (Sd.of g6.base)
    -- onward known for a while
    have sc : Same B6 (upd B6 dn (.dT ovs)) := same_new k6.1
    obtain ⟨v, hv, rv⟩ : ∃ v, valV mvs (kP p) = some v ∧ Rp B2 v (dPs ns) := by
      have hlk : lk (reach t) p = some ns := lk_mem nd hmem
      have := Mv.get mv2 p
      rw [hlk] at this
      exact this
    have nl : ns.length ≤ 5 := by
      have := (reach_may ok hmem).2
      have := nextB_len t p
      simp_all
    have E : EvD _ [some v1, some (.ref am), some vg, some (.ref dn), some x, y0, z0] (upd B6 dn (.dT ovs)) (dPs (ns.filter fun o => decide (o ∈ keysM (onwN t ((reach t).reverse.take i))))) :=
      (ev_lcL (σ := [some v1, some (.ref am), some vg, some (.ref dn), some x, y0, z0]) (g := gName 6) (tt := tB (tDIn (tVar 6) (tVar 3))) (te := tVar 6) (vs := [6]) (wi := iList K (tDGet (tVar 1) (tVar 4))) (fOn (keysM (onwN t ((reach t).reverse.take i)))) (wk_list (ds := ns.map dP) (ev_dget (J := dt (dPs ns)) (is := [p.1, p.2.1, p.2.2]) (ev_var (I := dtI am mvs) ⟨rfl, sc _ _ (s26 _ _ em2)⟩) (ev_var (I := dt (dP p)) (Rp.mono (Sd.of sc) px)) hv (Rp.mono (Sd.of (s26.trans sc)) rv))) (by rw [List.length_map]; omega) fun d y B7 hd s7 p7 => by
        obtain ⟨e, _, rfl⟩ := List.mem_map.mp hd
        refine ⟨_, decide (e ∈ keysM (onwN t ((reach t).reverse.take i))), gt_name, rfl, et_B (ev_inM (p := e) (ev_var (I := dt (dP e)) p7) (ev_var (I := dtI dn ovs) ⟨rfl, s7 _ _ upd_same⟩) (mo6.mono (Sd.of (sc.trans s7)))), fun z => ?_, fun z => ?_⟩
        · exact if_neg (of_decide_eq_false z)
        · exact ⟨dP e, if_pos (of_decide_eq_true z), ev_var (I := dt (dP e)) p7⟩).is (congrArg PyData.list (fm_on ns))
    refine s_setO E True.intro k6.1 k6.2 g6.sub fun vf B8 H8 g8 p8 => ?_
    have k8 := g8.kept k6.1 k6.2
    have pgx : Rp B8 vg (dP (goalP t)) := Rp.mono (Sd.of (s26.trans g8.base)) pg
    have pxx : Rp B8 x (dP p) := Rp.mono (Sd.of g8.base) px
    have hstep : onwN t ((reach t).reverse.take (i + 1)) = stepO t (onwN t ((reach t).reverse.take i)) (p, ns) := by
      rw [List.take_succ, List.getElem?_eq_getElem lr, hm]
      exact onwN_snoc t _ _
    have gi8 := gi6.trans g8
    have mo8 := mo6.mono (Sd.of g8.base)
    refine s_if (b := (!((ns.filter fun o => decide (o ∈ keysM (onwN t ((reach t).reverse.take i)))).map dP).isEmpty || decide (p = goalP t))) (et_or (et_lst (ev_var (I := dt (dPs (ns.filter fun o => decide (o ∈ keysM (onwN t ((reach t).reverse.take i)))))) p8)) fun _ => et_test ((ev_op (ev_var (I := dt (dP p)) pxx) (ev_var (I := dt (dP (goalP t))) pgx) (rv_eqD (sh_dP _) (sh_dP _))).is (congrArg PyData.bool (eqv_dP _ _)))) g8.sub (fun e B9 H9 g9 => ?_) fun e B9 H9 g9 => ?_
    · have k9 := g9.kept k8.1 k8.2
      have cond : ns.filter (fun o => decide (o ∈ keysM (onwN t ((reach t).reverse.take i)))) ≠ [] ∨ p = goalP t := by
        rw [Bool.or_eq_true] at e
        rcases e with e | e
        · exact .inl fun z => by rw [z] at e; cases e
        · exact .inr (of_decide_eq_true e)
      have hnot : p ∉ (onwN t ((reach t).reverse.take i)).map Prod.fst := fun z => by
        have h2 := onwN_keys t _ p z
        unfold keysM at h2
        obtain ⟨j, hj, e2⟩ := List.mem_iff_getElem.mp h2
        rw [List.length_map, List.length_take] at hj
        have e3 : ((reach t).reverse.map Prod.fst)[j]'(by rw [List.length_map]; omega) = ((reach t).reverse.map Prod.fst)[i]'(by rw [List.length_map]; omega) := by
          rw [List.getElem_map, List.getElem_map, hm]
          rw [List.getElem_map, List.getElem_take] at e2
          exact e2
        have := (List.getElem_inj ndr).mp e3
        omega
      refine s_dputO (is := [p.1, p.2.1, p.2.2]) (ev_var (I := dt (dPs (ns.filter fun o => decide (o ∈ keysM (onwN t ((reach t).reverse.take i)))))) (Rp.mono (Sd.of g9.base) p8)) g9.sub (fun B1 H1 g1 Q q => ⟨_, rfl, q⟩) (ev_var (I := dt (dP p)) (Rp.mono (Sd.of g9.base) pxx)) k9.1 k9.2 ?_ fun v' B10 H10 g10 p10 b10 e10 => ?_
      · have z1 := mo.len
        have z2 := onwN_len t ((reach t).reverse.take i)
        rw [List.length_take] at z2
        exact Nat.lt_of_le_of_lt (by omega : _ ≤ 10000) (by decide)
      · have mo9 := mo8.mono (Sd.of (g9.base.trans g10.base))
        refine ⟨B10, s5.trans (g6.base.trans (g8.base.trans (g9.base.trans g10.base))), Same.put ((gi8.trans g9).trans g10).sub b10, ⟨_, _, _, rfl⟩, ((gi8.trans g9).trans g10).put hn0 b10, b10, _, upd_same, ?_⟩
        rw [hstep, stepO, if_pos cond, show kI [p.1, p.2.1, p.2.2] = kP p from rfl, putK_new (Mv.notin mo9 hnot)]
        exact mo9.snoc p10
    · have k9 := g9.kept k8.1 k8.2
      have cond : ¬ (ns.filter (fun o => decide (o ∈ keysM (onwN t ((reach t).reverse.take i)))) ≠ [] ∨ p = goalP t) := by
        rw [Bool.or_eq_false_iff] at e
        rintro (z | z)
        · apply z
          cases hc : ns.filter (fun o => decide (o ∈ keysM (onwN t ((reach t).reverse.take i)))) with
          | nil => rfl
          | cons a b =>
            rw [hc] at e
            cases e.1
        · exact absurd z (of_decide_eq_false e.2)
      refine ⟨B9, s5.trans (g6.base.trans (g8.base.trans g9.base)), (gi8.trans g9).sub, ⟨_, _, _, rfl⟩, gi8.trans g9, k9.1, ovs, k9.2, ?_⟩
      rw [hstep, stepO, if_neg cond]
      exact mo8.mono (Sd.of g9.base)
  · rintro _ B5 H5 ⟨⟨x0, y0, z0, rfl⟩, gi, bi, ovs, eo, mo⟩ s5 s6
    have l0 : ((keysM (reach t)).map dP).length = (reach t).reverse.length := by
      unfold keysM
      rw [List.length_map, List.length_map, List.length_reverse]
    rw [l0, List.take_length] at mo
    have gc := gi.commit hn0 bi eo
    have moc := mo.mono (Sd.of (same_new (o := .dT ovs) bi))
    have emc : (upd B5 dn (.dT ovs)) am = some (.dT mvs) := (same_new bi) _ _ (s5 _ _ (g4.base _ _ em2))
    have nam : dn ≠ am := fun z => by
      subst z
      rw [s5 _ _ (g4.base _ _ em2)] at bi
      cases bi
    have ndo := onwN_nodup t (reach t).reverse ndr
    refine s_ret (ev_lock (I := mvI (wayM t)) emc (fun od => ?_) ?_) gc.sub fun v B7 H7 g7 p7 => q v B7 H7 (gc.trans g7) p7
    · have bo : (upd (upd B5 dn (.dT ovs)) am (.frz od (.dT mvs))) dn = some (.dT ovs) := by rw [upd_ne nam, upd_same]
      have sdl : Sd (upd B5 dn (.dT ovs)) (upd (upd B5 dn (.dT ovs)) am (.frz od (.dT mvs))) := Sd.upd (by rw [emc]; exact True.intro)
      have mof := moc.mono sdl
      refine Ev.imp (ev_dcP (tk := tVar 4) (tv := tDGet (tVar 3) (tVar 4)) (g := gName 4) (tt := tB (tDIn (tVar 4) (tVar 3))) (vs := [4]) (σ := [some v1, some (.ref am), some vg, some (.ref dn), x0, y0, z0]) (fun i => (((reach t)[i]?).bind fun m => (lk (onward t) m.1).map fun ns => (m.1, ns)))
        (wk_keys (td := tVar 1) (od := od) (ev_var (I := xv (.ref am)) rfl) upd_same hkm) ?_ ?_ ?_) fun v A h => ?_
      rotate_left 3
      · have : (List.range ((keysM (reach t)).map fun p => [p.1, p.2.1, p.2.2]).length).filterMap (fun i => (((reach t)[i]?).bind fun m => (lk (onward t) m.1).map fun ns => (m.1, ns))) = wayM t := by
          unfold wayM keysM
          rw [List.length_map, List.length_map]
          exact range_bind (reach t)
        rw [this] at h
        exact h
      · unfold keysM
        rw [List.length_map, List.length_map]
        omega
      · intro i j a b hij hj ha hb e
        unfold keysM at hj
        rw [List.length_map, List.length_map] at hj
        rw [List.getElem?_eq_getElem (by omega : i < (reach t).length)] at ha
        rw [List.getElem?_eq_getElem hj] at hb
        obtain ⟨x1, hx1, rfl⟩ := Option.map_eq_some_iff.mp (show (lk (onward t) ((reach t)[i]).1).map _ = some a from ha)
        obtain ⟨x2, hx2, rfl⟩ := Option.map_eq_some_iff.mp (show (lk (onward t) ((reach t)[j]).1).map _ = some b from hb)
        have e3 : ((reach t).map Prod.fst)[i]'(by rw [List.length_map]; omega) = ((reach t).map Prod.fst)[j]'(by rw [List.length_map]; omega) := by
          rw [List.getElem_map, List.getElem_map]
          exact e
        have := (List.getElem_inj nd).mp e3
        omega
      · intro i x B8 hi s8 px
        unfold keysM at hi
        rw [List.length_map, List.length_map] at hi
        have px : Rp B8 x (dI (((keysM (reach t)).map fun p => [p.1, p.2.1, p.2.2]).getD i [])) := px
        have e1 : ((keysM (reach t)).map fun p => [p.1, p.2.1, p.2.2]).getD i [] = [((reach t)[i]).1.1, ((reach t)[i]).1.2.1, ((reach t)[i]).1.2.2] := by
          unfold keysM
          rw [List.map_map]
          simp [List.getD, hi]
        rw [e1] at px
        have px : Rp B8 x (dP ((reach t)[i]).1) := px
        have mo8 : Mv B8 ovs (onward t) := mof.mono (Sd.of s8)
        refine ⟨_, decide (((reach t)[i]).1 ∈ keysM (onward t)), gt_name, rfl, et_B (ev_inM (p := ((reach t)[i]).1) (ev_var (I := dt (dP ((reach t)[i]).1)) px) (ev_var (I := dtI dn ovs) ⟨rfl, s8 _ _ bo⟩) mo8), fun e => ?_, fun e => ?_⟩
        · rw [List.getElem?_eq_getElem hi]
          show (lk (onward t) ((reach t)[i]).1).map _ = none
          rw [lk_none (of_decide_eq_false e)]
          rfl
        · obtain ⟨m, hm, e2⟩ := List.mem_map.mp (of_decide_eq_true e)
          have hlk : lk (onward t) ((reach t)[i]).1 = some m.2 := lk_mem ndo (by rw [← e2]; exact hm)
          have hg := Mv.get mo8 ((reach t)[i]).1
          rw [hlk] at hg
          obtain ⟨v, hv, rv⟩ := hg
          refine ⟨(((reach t)[i]).1, m.2), ?_, ev_var (I := dt (dP ((reach t)[i]).1)) px, ev_dget (J := dt (dPs m.2)) (is := [((reach t)[i]).1.1, ((reach t)[i]).1.2.1, ((reach t)[i]).1.2.2]) (ev_var (I := dtI dn ovs) ⟨rfl, s8 _ _ bo⟩) (ev_var (I := dt (dP ((reach t)[i]).1)) px) hv rv⟩
          rw [List.getElem?_eq_getElem hi]
          show (lk (onward t) ((reach t)[i]).1).map _ = _
          rw [hlk]
          rfl
    · rintro v A od ⟨⟨a, kvs⟩, _, ⟨rfl, e1⟩, m1⟩ ef
      refine ⟨(a, kvs), trivial, ⟨rfl, ?_⟩, Mv.mono (Sd.upd (by rw [ef]; exact True.intro)) m1⟩
      have z : a ≠ am := fun z => by
        rw [z, ef] at e1
        cases e1
      rw [upd_ne z]
      exact e1
end
end Sky

set_option Elab.async false
set_option linter.all false
set_option maxRecDepth 100000
set_option maxHeartbeats 4000000
/-! Plain: the ways from a place to the goal; what way_moves keeps. -/
namespace Sky
open PySem PySem.Spec PyProof.Rows L2
theorem flat_congr {α β : Type} {l : List α} {f g : α → List β} (h : ∀ a ∈ l, f a = g a) : l.flatMap f = l.flatMap g := by
  induction l with
  | nil => rfl
  | cons a l ih =>
    rw [List.flatMap_cons, List.flatMap_cons, h a (List.mem_cons_self ..), ih fun b hb => h b (List.mem_cons_of_mem _ hb)]
theorem fm_congr {α β : Type} {l : List α} {f g : α → Option β} (h : ∀ a ∈ l, f a = g a) : l.filterMap f = l.filterMap g := by
  induction l with
  | nil => rfl
  | cons a l ih =>
    rw [List.filterMap_cons, List.filterMap_cons, h a (List.mem_cons_self ..), ih fun b hb => h b (List.mem_cons_of_mem _ hb)]
def wy (t : Tr) : Nat → Place → List (List Place)
  | 0, p => if p = goalP t then [[p]] else []
  | n + 1, p => (nextB t p).flatMap fun o => (wy t n o).map (p :: ·)
def fuel (t : Tr) (p : Place) : Nat := (t.l - p.1).toNat
def wyF (t : Tr) (p : Place) : List (List Place) := wy t (fuel t p) p
def good (t : Tr) (p : Place) : Bool := !(wyF t p).isEmpty
theorem good_iff {t : Tr} {p : Place} : good t p = true ↔ wyF t p ≠ [] := by
  unfold good
  cases wyF t p <;> simp
theorem wy_step {t : Tr} (ok : TrOk t) {p : Place} (m : May t p) (h : p.1 < t.l) : wyF t p = (nextB t p).flatMap fun o => (wyF t o).map (p :: ·) := by
  have e : fuel t p = (t.l - (p.1 + 1)).toNat + 1 := by
    unfold fuel
    omega
  unfold wyF
  rw [e]
  show (nextB t p).flatMap _ = _
  refine flat_congr fun o ho => ?_
  have := (may_next ok m ho).2
  unfold fuel
  rw [this]
theorem next_last {t : Tr} {p : Place} (h : p.1 = t.l) : nextB t p = [] := by
  have e : nextT t p = [] := if_pos h
  unfold nextB
  split
  · exact e
  · rw [e]
    rfl
theorem wy_last {t : Tr} {p : Place} (h : p.1 = t.l) : wyF t p = if p = goalP t then [[p]] else [] := by
  have e : fuel t p = 0 := by
    unfold fuel
    omega
  unfold wyF
  rw [e]
  rfl
theorem flat_ne {α β : Type} {l : List α} {f : α → List β} : l.flatMap f ≠ [] ↔ ∃ a ∈ l, f a ≠ [] := by
  induction l with
  | nil => simp
  | cons a l ih =>
    rw [List.flatMap_cons]
    constructor
    · intro h
      by_cases e : f a = []
      · rw [e, List.nil_append] at h
        obtain ⟨b, hb, h⟩ := ih.mp h
        exact ⟨b, List.mem_cons_of_mem _ hb, h⟩
      · exact ⟨a, List.mem_cons_self .., e⟩
    · rintro ⟨b, hb, h⟩ z
      obtain ⟨z1, z2⟩ := List.append_eq_nil_iff.mp z
      rcases List.mem_cons.mp hb with e | hb
      · rw [e] at h
        exact h z1
      · exact ih.mpr ⟨b, hb, h⟩ z2
/-- good: the goal, or some next is good -/
theorem good_step {t : Tr} (ok : TrOk t) {p : Place} (m : May t p) : good t p = true ↔ (p = goalP t ∨ ∃ o ∈ nextB t p, good t o = true) := by
  rw [good_iff]
  by_cases h : p.1 = t.l
  · rw [wy_last h, next_last h]
    by_cases e : p = goalP t
    · simp [e]
    · simp [e]
  · have hl : p.1 < t.l := by
      have := m.hi
      omega
    have hne : p ≠ goalP t := fun e => h (by rw [e]; rfl)
    rw [wy_step ok m hl, flat_ne]
    constructor
    · rintro ⟨o, ho, h⟩
      refine .inr ⟨o, ho, good_iff.mpr fun z => h ?_⟩
      rw [z]
      rfl
    · rintro (e | ⟨o, ho, h⟩)
      · exact absurd e hne
      · refine ⟨o, ho, fun z => ?_⟩
        have := good_iff.mp h
        cases hw : wyF t o with
        | nil => exact this hw
        | cons a b =>
          rw [hw] at z
          cases z
/-- good, no good next: the goal -/
theorem good_end {t : Tr} (ok : TrOk t) {p : Place} (m : May t p) (g : good t p = true) (h : (nextB t p).filter (good t) = []) : p = goalP t := by
  rcases (good_step ok m).mp g with e | ⟨o, ho, hg⟩
  · exact e
  · have : o ∈ (nextB t p).filter (good t) := List.mem_filter.mpr ⟨ho, hg⟩
    rw [h] at this
    cases this
theorem wy_good {t : Tr} (ok : TrOk t) {p : Place} (m : May t p) (h : p.1 < t.l) : wyF t p = ((nextB t p).filter (good t)).flatMap fun o => (wyF t o).map (p :: ·) := by
  rw [wy_step ok m h]
  induction nextB t p with
  | nil => rfl
  | cons o l ih =>
    rw [List.flatMap_cons, ih]
    by_cases g : good t o = true
    · rw [List.filter_cons_of_pos g, List.flatMap_cons]
    · rw [List.filter_cons_of_neg g]
      have : wyF t o = [] := by
        rw [good_iff] at g
        exact Classical.not_not.mp g
      rw [this]
      rfl
/-! ### in order of hours -/
def ByHour (l : List (Place × List Place)) : Prop := l.Pairwise fun a b => a.1.1 ≤ b.1.1
theorem reachN_hour {t : Tr} (ok : TrOk t) : ∀ n, ByHour (reachN t n)
  | 0 => List.Pairwise.nil
  | n + 1 => by
    unfold ByHour
    rw [reachN_succ, List.pairwise_append]
    refine ⟨reachN_hour ok n, ?_, fun a ha b hb => ?_⟩
    · rw [List.pairwise_map]
      have hl : ∀ p ∈ layer t n, p.1 = t.e + n := fun p hp => (layer_may ok n p hp).2
      generalize layer t n = l at hl
      induction l with
      | nil => exact List.Pairwise.nil
      | cons p l ih =>
        refine List.Pairwise.cons (fun q hq => ?_) (ih fun q hq => hl q (List.mem_cons_of_mem _ hq))
        dsimp only
        rw [hl p (List.mem_cons_self ..), hl q (List.mem_cons_of_mem _ hq)]
        exact Int.le_refl _
    · obtain ⟨k, hk, ha⟩ := List.mem_flatMap.mp ha
      obtain ⟨p, hp, rfl⟩ := List.mem_map.mp ha
      obtain ⟨q, hq, rfl⟩ := List.mem_map.mp hb
      have e1 := (layer_may ok k _ hp).2
      have e2 := (layer_may ok n _ hq).2
      have := List.mem_range.mp hk
      dsimp only
      omega
theorem reach_next {t : Tr} (ok : TrOk t) {m : Place × List Place} (h : m ∈ reach t) {o : Place} (ho : o ∈ m.2) : (o, nextB t o) ∈ reach t := by
  obtain ⟨k, hk, h⟩ := List.mem_flatMap.mp h
  obtain ⟨p, hp, rfl⟩ := List.mem_map.mp h
  have ho : o ∈ nextB t p := ho
  obtain ⟨mp, e⟩ := layer_may ok k p hp
  obtain ⟨mo, e2⟩ := may_next ok mp ho
  have hi := mo.hi
  have : k + 1 < steps t + 1 := by
    unfold steps
    omega
  refine List.mem_flatMap.mpr ⟨k + 1, List.mem_range.mpr this, List.mem_map.mpr ⟨o, ?_, rfl⟩⟩
  show o ∈ sortP _
  rw [mem_sortP, mem_addAll]
  exact .inr (List.mem_flatMap.mpr ⟨p, hp, ho⟩)
/-- a later one stands in the part of the turned list that is through -/
theorem in_front {l' l'' : List (Place × List Place)} {m x : Place × List Place} (h : (l' ++ m :: l'').Pairwise fun a b => b.1.1 ≤ a.1.1) (hx : x ∈ l' ++ m :: l'') (lt : m.1.1 < x.1.1) : x ∈ l' := by
  rcases List.mem_append.mp hx with hx | hx
  · exact hx
  · rw [List.pairwise_append] at h
    rcases List.mem_cons.mp hx with e | hx
    · rw [e] at lt
      omega
    · have := (List.pairwise_cons.mp h.2.1).1 x hx
      omega
def gM (t : Tr) (m : Place × List Place) : Option (Place × List Place) := if good t m.1 then some (m.1, m.2.filter (good t)) else none
theorem onw_eq {t : Tr} (ok : TrOk t) : ∀ l' l'' : List (Place × List Place), (reach t).reverse = l' ++ l'' → onwN t l' = l'.filterMap (gM t) := by
  intro l'
  induction l' using snoc_ind with
  | h0 => intro l'' _; rfl
  | h1 l' m ih =>
    intro l'' h
    rw [List.append_assoc] at h
    have ih := ih ([m] ++ l'') h
    rw [onwN_snoc, ih, List.filterMap_append]
    have hm : m ∈ reach t := by
      have : m ∈ (reach t).reverse := by rw [h]; simp
      exact List.mem_reverse.mp this
    obtain ⟨mm, e2⟩ := reach_may ok hm
    have pw : (l' ++ m :: l'').Pairwise fun a b => b.1.1 ≤ a.1.1 := by
      have := List.pairwise_reverse.mpr (reachN_hour ok (steps t + 1))
      rw [show reachN t (steps t + 1) = reach t from rfl, h] at this
      exact this
    have key : ∀ o ∈ m.2, (o ∈ keysM (l'.filterMap (gM t)) ↔ good t o = true) := fun o ho => by
      constructor
      · intro z
        obtain ⟨x, hx, e⟩ := List.mem_map.mp z
        obtain ⟨y, hy, e3⟩ := List.mem_filterMap.mp hx
        unfold gM at e3
        split at e3
        · rename_i hg
          cases e3
          rw [← e]
          exact hg
        · cases e3
      · intro g
        have hr := reach_next ok hm ho
        have hin : (o, nextB t o) ∈ l' := by
          refine in_front pw (x := (o, nextB t o)) (by rw [← List.singleton_append, ← h]; exact List.mem_reverse.mpr hr) ?_
          have : o ∈ nextB t m.1 := by rw [← e2]; exact ho
          have := (may_next ok mm this).2
          dsimp only
          omega
        refine List.mem_map.mpr ⟨(o, (nextB t o).filter (good t)), List.mem_filterMap.mpr ⟨_, hin, ?_⟩, rfl⟩
        unfold gM
        rw [if_pos g]
    have ef : m.2.filter (fun o => decide (o ∈ keysM (l'.filterMap (gM t)))) = m.2.filter (good t) := by
      refine List.filter_congr fun o ho => ?_
      have := key o ho
      cases hg : good t o with
      | true => exact decide_eq_true (this.mpr hg)
      | false => exact decide_eq_false fun z => by rw [this.mp z] at hg; cases hg
    unfold stepO
    rw [ef]
    have hcond : (m.2.filter (good t) ≠ [] ∨ m.1 = goalP t) ↔ good t m.1 = true := by
      rw [good_step ok mm, ← e2]
      constructor
      · rintro (h | h)
        · obtain ⟨o, l, e⟩ := List.exists_cons_of_ne_nil h
          have : o ∈ m.2.filter (good t) := by rw [e]; exact List.mem_cons_self ..
          exact .inr ⟨o, (List.mem_filter.mp this).1, (List.mem_filter.mp this).2⟩
        · exact .inl h
      · rintro (h | ⟨o, ho, hg⟩)
        · exact .inr h
        · exact .inl fun z => by
            have : o ∈ m.2.filter (good t) := List.mem_filter.mpr ⟨ho, hg⟩
            rw [z] at this
            cases this
    by_cases g : good t m.1 = true
    · rw [if_pos (hcond.mpr g)]
      congr 1
      show _ = [m].filterMap (gM t)
      rw [List.filterMap_cons, gM, if_pos g]
      rfl
    · rw [if_neg fun z => g (hcond.mp z), List.filterMap_cons, gM, if_neg g, List.filterMap_nil, List.append_nil]
theorem lk_fm {t : Tr} {l : List (Place × List Place)} (nd : (l.map Prod.fst).Nodup) {m : Place × List Place} (hm : m ∈ l) : lk (l.filterMap (gM t)) m.1 = if good t m.1 then some (m.2.filter (good t)) else none := by
  induction l with
  | nil => cases hm
  | cons x l ih =>
    rw [List.map_cons, List.nodup_cons] at nd
    rw [List.filterMap_cons]
    rcases List.mem_cons.mp hm with e | hm
    · subst e
      by_cases g : good t m.1 = true
      · rw [if_pos g, gM, if_pos g]
        simp [lk]
      · rw [if_neg g, gM, if_neg g]
        dsimp only
        refine lk_none fun z => nd.1 ?_
        obtain ⟨y, hy, e⟩ := List.mem_map.mp z
        obtain ⟨w, hw, e2⟩ := List.mem_filterMap.mp hy
        unfold gM at e2
        split at e2
        · cases e2
          exact List.mem_map.mpr ⟨w, hw, e⟩
        · cases e2
    · have hne : ¬ x.1 = m.1 := fun e => nd.1 (by rw [e]; exact List.mem_map_of_mem hm)
      rw [← ih nd.2 hm]
      by_cases g : good t x.1 = true
      · rw [gM, if_pos g]
        simp [lk, List.find?, hne]
      · rw [gM, if_neg g]
theorem wayM_eq {t : Tr} (ok : TrOk t) : wayM t = (reach t).filterMap (gM t) := by
  unfold wayM
  refine fm_congr fun m hm => ?_
  have nd := reachN_nodup ok (steps t + 1)
  have ndr : ((reach t).reverse.map Prod.fst).Nodup := by
    rw [List.map_reverse]
    exact (List.reverse_perm _).nodup_iff.mpr nd
  unfold onward
  rw [onw_eq ok (reach t).reverse [] (by rw [List.append_nil]), lk_fm ndr (List.mem_reverse.mpr hm)]
  unfold gM
  by_cases g : good t m.1 = true
  · rw [if_pos g, if_pos g]
    rfl
  · rw [if_neg g, if_neg g]
    rfl
end Sky

set_option Elab.async false
set_option linter.all false
set_option maxRecDepth 100000
set_option maxHeartbeats 4000000
/-! many_ways. -/
namespace Sky
open PySem PySem.Spec PyProof.Rows L2
theorem mem_wayM {t : Tr} (ok : TrOk t) {m : Place × List Place} (h : m ∈ wayM t) : May t m.1 ∧ m.2 = (nextB t m.1).filter (good t) ∧ good t m.1 = true := by
  rw [wayM_eq ok] at h
  obtain ⟨x, hx, e⟩ := List.mem_filterMap.mp h
  obtain ⟨h1, h2⟩ := reach_may ok hx
  unfold gM at e
  split at e
  · rename_i hg
    cases e
    exact ⟨h1, by rw [h2], hg⟩
  · cases e
theorem keys_wayM {t : Tr} (ok : TrOk t) : keysM (wayM t) = (keysM (reach t)).filter (good t) := by
  rw [wayM_eq ok]
  unfold keysM
  induction reach t with
  | nil => rfl
  | cons x l ih =>
    rw [List.filterMap_cons, List.map_cons]
    by_cases g : good t x.1 = true
    · rw [gM, if_pos g, List.filter_cons_of_pos g]
      dsimp only
      rw [List.map_cons, ih]
    · rw [gM, if_neg g, List.filter_cons_of_neg g]
      exact ih
theorem nodup_wayM {t : Tr} (ok : TrOk t) : ((wayM t).map Prod.fst).Nodup := by
  show (keysM (wayM t)).Nodup
  rw [keys_wayM ok]
  exact (reachN_nodup ok (steps t + 1)).filter _
theorem way_next {t : Tr} (ok : TrOk t) {m : Place × List Place} (h : m ∈ wayM t) {o : Place} (ho : o ∈ m.2) : (o, (nextB t o).filter (good t)) ∈ wayM t := by
  rw [wayM_eq ok] at h ⊢
  obtain ⟨x, hx, e⟩ := List.mem_filterMap.mp h
  unfold gM at e
  split at e
  · cases e
    have ho := List.mem_filter.mp ho
    refine List.mem_filterMap.mpr ⟨_, reach_next ok hx ho.1, ?_⟩
    unfold gM
    rw [if_pos ho.2]
  · cases e
theorem hour_wayM {t : Tr} (ok : TrOk t) : ByHour (wayM t) := by
  rw [wayM_eq ok]
  have h := reachN_hour ok (steps t + 1)
  rw [show reachN t (steps t + 1) = reach t from rfl] at h
  unfold ByHour at h ⊢
  rw [List.pairwise_filterMap]
  refine h.imp fun {a b} hab x hx y hy => ?_
  unfold gM at hx hy
  split at hx
  · split at hy
    · cases hx
      cases hy
      exact hab
    · cases hy
  · cases hx
theorem wayM_len {t : Tr} (ok : TrOk t) : (wayM t).length ≤ 2500 := by
  rw [wayM_eq ok]
  exact Nat.le_trans (List.length_filterMap_le _ _) (reach_len ok)
theorem good_back {t : Tr} (ok : TrOk t) : ∀ (k : Nat) (p : Place), p ∈ layer t k → good t p = true → startP t ∉ banL t ∧ good t (startP t) = true
  | 0, p, h, g => by
    unfold layer at h
    split at h
    · cases h
    · rename_i hb
      rw [List.mem_singleton] at h
      subst h
      exact ⟨hb, g⟩
  | k + 1, p, h, g => by
    unfold layer at h
    rw [mem_sortP, mem_addAll] at h
    rcases h with h | h
    · cases h
    · obtain ⟨q, hq, hp⟩ := List.mem_flatMap.mp h
      exact good_back ok k q hq ((good_step ok (layer_may ok k q hq).1).mpr (.inr ⟨p, hp, g⟩))
theorem start_reach {t : Tr} (hb : startP t ∉ banL t) : (startP t, nextB t (startP t)) ∈ reach t := by
  refine List.mem_flatMap.mpr ⟨0, List.mem_range.mpr (by omega), List.mem_map.mpr ⟨startP t, ?_, rfl⟩⟩
  rw [show layer t 0 = [startP t] from if_neg hb]
  exact List.mem_cons_self ..
theorem wayM_nil {t : Tr} (ok : TrOk t) : (wayM t).isEmpty = (decide (startP t ∈ banL t) || !good t (startP t)) := by
  rw [Bool.eq_iff_iff, List.isEmpty_iff, Bool.or_eq_true, decide_eq_true_eq]
  constructor
  · intro h
    by_cases hb : startP t ∈ banL t
    · exact .inl hb
    · refine .inr ?_
      cases hg : good t (startP t) with
      | false => rfl
      | true =>
        have : startP t ∈ keysM (wayM t) := by
          rw [keys_wayM ok, List.mem_filter]
          exact ⟨List.mem_map_of_mem (f := Prod.fst) (start_reach hb), hg⟩
        rw [h] at this
        cases this
  · intro h
    cases hw : wayM t with
    | nil => rfl
    | cons m l =>
      exfalso
      have hm : m.1 ∈ keysM (wayM t) := by
        rw [hw]
        exact List.mem_cons_self ..
      rw [keys_wayM ok, List.mem_filter] at hm
      obtain ⟨k, _, hk⟩ := mem_reachN ok hm.1
      obtain ⟨h1, h2⟩ := good_back ok k _ hk hm.2
      rcases h with h | h
      · exact h1 h
      · rw [h2] at h
        cases h
def cnt (t : Tr) (p : Place) : Int := (wyF t p).length
theorem cnt_sum {t : Tr} (ok : TrOk t) {p : Place} (m : May t p) (g : good t p = true) : cnt t p = if ((nextB t p).filter (good t)).isEmpty then 1 else (((nextB t p).filter (good t)).map (cnt t)).sum := by
  by_cases h : (nextB t p).filter (good t) = []
  · have e := good_end ok m g h
    rw [h]
    show _ = 1
    unfold cnt
    have hl : p.1 = t.l := by rw [e]; rfl
    rw [wy_last hl, if_pos e]
    rfl
  · have hl : p.1 < t.l := by
      have h1 := m.hi
      by_cases e : p.1 = t.l
      · rw [next_last e] at h
        exact absurd rfl h
      · omega
    have he : ((nextB t p).filter (good t)).isEmpty = false := by
      cases z : (nextB t p).filter (good t) with
      | nil => exact absurd z h
      | cons a b => rfl
    rw [he, if_neg Bool.false_ne_true]
    unfold cnt
    rw [wy_good ok m hl]
    generalize (nextB t p).filter (good t) = l
    induction l with
    | nil => rfl
    | cons o l ih =>
      rw [List.flatMap_cons, List.length_append, List.map_cons, List.sum_cons, ← ih, List.length_map]
      omega
/-- the dict of counts: of these places -/
def cKv (t : Tr) (ps : List Place) : List (List Key × V) := ps.map fun p => (kP p, V.int (cnt t p))
theorem cKv_get {t : Tr} {ps : List Place} {p : Place} (h : p ∈ ps) : valV (cKv t ps) (kP p) = some (.int (cnt t p)) := by
  induction ps with
  | nil => cases h
  | cons q l ih =>
    by_cases e : q = p
    · subst e
      simp [cKv, valV]
    · have : ¬ kP q = kP p := fun z => e (kP_inj z)
      have e2 : valV (cKv t (q :: l)) (kP p) = valV (cKv t l) (kP p) := by simp [cKv, valV, List.find?, this]
      rw [e2]
      rcases List.mem_cons.mp h with z | z
      · exact absurd z.symm e
      · exact ih z
theorem cKv_new {t : Tr} {ps : List Place} {p : Place} (h : p ∉ ps) : kP p ∉ (cKv t ps).map Prod.fst := by
  unfold cKv
  rw [List.map_map]
  intro z
  obtain ⟨q, hq, e⟩ := List.mem_map.mp z
  exact h (kP_inj e ▸ hq)
section
variable {P : Program} {w : World} {K : PySem.W.Frag} {mg : Str → Option Value} {base : Heap} {W : Wd}
theorem rpa_ints2 {A : Hp} : ∀ {ns : List Int} {vs : List V}, RpA A vs (ns.map PyData.int) → vs = ns.map V.int
  | [], _, .nil => rfl
  | b :: bs, _, .cons r t => by rw [Rp.int_eq r, rpa_ints2 t]; rfl
theorem ev_sum {σ : L2.St} {H : Hp} {te : TE} {ns : List Int} (h : EvD te σ H (.list (ns.map .int))) : EvD (tCB (rSum K) (tCons te tNil)) σ H (.int ns.sum) := fun H1 s Q q =>
  h H1 s _ fun v B2 H2 g2 p2 => by
    obtain ⟨a, xs, rfl, e, r⟩ := Rp.lst_eq p2
    rw [rpa_ints2 r] at e
    exact ⟨a, ns, rfl, SqL.of (g2.sub _ _ e), q _ B2 H2 g2 (.int _)⟩
theorem s_dputE {σ : L2.St} {D : Ends} {td ty tv : TE} {B H : Hp} {a : Addr} {d : PyData} {kvs : List (List Key × V)} {is : List Int} (h : EvD tv σ (upd B a (.dT kvs)) d) (ha : B a = none) (eH : H a = some (.dT kvs)) (s : Same B H) (hd : ∀ B1 H1, Grow B H B1 H1 → ∀ Q : VK, Q (.ref a) H1 → td σ H1 Q)
    (hk : ∀ B1 H1, Grow B H B1 H1 → EvD ty σ B1 (dI is)) (hl : kvs.length < sizeLine) (k : ∀ v B1 H1, Grow B H B1 H1 → Rp B1 v d → B1 a = none → H1 a = some (.dT kvs) → D.nx σ (upd H1 a (.dT (putK kvs (kI is) v)))) : sDPut td ty tv D σ H :=
  evd_open h True.intro ha eH s fun v B1 H1 g p => hd B1 H1 g _ ((hk B1 H1 g) H1 g.sub _ fun y B3 H3 g3 p3 => by
    obtain ⟨c, rfl, e2⟩ := Rp.key p3
    have z := (g.trans g3).kept ha eH
    exact ⟨a, _, rfl, DPut.t z.2 (g3.sub _ _ e2) hl, k v B3 H3 (g.trans g3) (Rp.mono (Sd.of g3.base) p) z.1 z.2⟩)
def manyW (t : Tr) : Int := if startP t ∈ banL t then 0 else cnt t (startP t)
def fCnt (t : Tr) : PyData → Option PyData
  | .tuple [.int a, .int b, .int c] => some (.int (cnt t (a, b, c)))
  | _ => none
abbrev spMany (W : Wd) : Sp := SpF (fun t : Tr => [trI W t]) TrOk fun t => dt (.int (manyW t))
theorem sc_many_ways : FnScope ["trip", "moves", "counts", "place", "other"] ["trip"] (defScope s_many_ways) := C8.fnScope_by (by decide +kernel)
theorem ok_many_ways (T : Bt mg) (Z : Kc K mg W) (cstart_place : C8.Cal P w K mg base 1 "start_place" (spStart W) []) (cway_moves : C8.Cal P w K mg base 9 "way_moves" (spWayM W) []) (F : Dfn K mg "many_ways" s_many_ways ["trip"]) : C8.Cal P w K mg base 10 "many_ways" (spMany W) [] := by
  have sc := sc_many_ways
  refine F.cal sc (SpF.len fun _ => rfl) fun f cdv A outer s H vs Q E hr hsp => ?_
  refine ⟨_, (pss_cons (ps_set (i := 1) sc.nd rfl (by first | exact Or.inl rfl | exact Or.inr rfl) (C8.pe_c cway_moves hr (by decide) (by rfl) (pa_cons (pv 0) pa_nil)))
    (pss_cons (ps_if (pt_not (pt_trT (pv 1))) (pss_one (ps_ret pe_int)) pss_nil)
    (pss_cons (ps_set (i := 2) sc.nd rfl (by first | exact Or.inl rfl | exact Or.inr rfl) pe_dnewT)
    (pss_cons (ps_for PassesOwn.never rfl (pi_reversed (by rfl) T.n_reversed (pa_cons (pe_callTy (call_list_dT rfl) (by rfl) T.n_list bb_list (pa_cons (pv 1) pa_nil)) pa_nil)) (pg_name (i := 3) sc.nd rfl (by first | exact Or.inl rfl | exact Or.inr rfl))
      (pss_one (ps_dput (hu_of hr) (pv 2) (pv 3) (pe_ifExp (pt_truth (pe_dget (hu_of hr) (pv 1) (pv 3) (fun _ _ => rfl)) (by intro _; rfl)) (pe_callB (cr_sum rfl) (by rfl) T.n_sum bb_sum (pa_cons (pe_lc (own := [("other", 4)]) rfl sc.nd (pi_list (pe_dget (hu_of hr) (pv 1) (pv 3) (fun _ _ => rfl))) (blkOk_by (own := [("other", 4)]) (N := ["trip", "moves", "counts", "place", "other"]) (sc := defScope s_many_ways) (by decide +kernel)) (fun _ _ _ _ _ => (pg_name (i := 4) sc.nd rfl (by first | exact Or.inl rfl | exact Or.inr rfl))) (fun _ _ _ _ _ => pts_nil) (fun _ _ _ _ _ => (pe_dget (hu_of hr) (pv 2) (pv 4) (fun _ _ => rfl)))) pa_nil)) pe_int) rfl)))
    (pss_one (ps_ret (pe_dget (hu_of hr) (pv 2) (C8.pe_c cstart_place hr (by decide) (by rfl) (pa_cons (pv 0) pa_nil)) (fun _ _ => rfl)))))))), ?_⟩
  obtain ⟨t, B, hp, s0, ha, q⟩ := hsp
  dsimp only at hp ha q
  obtain ⟨v1, rfl, h1⟩ := ita1 ha
  have ok : TrOk t := hp
  refine s_set (ev_call t (ea1 (ev_var h1)) ok) s0 fun vm B1 H1 g1 p1 => ?_
  obtain ⟨⟨am, mvs⟩, _, ⟨rfl, em⟩, mv⟩ := p1
  dsimp only at em mv
  have mv : Mv B1 mvs (wayM t) := mv
  have hnil := wayM_nil ok
  have hmt : (!mvs.isEmpty) = !(wayM t).isEmpty := by
    have := mv.len
    cases mvs <;> cases hw : wayM t <;> simp_all
  refine s_if1 (b := (wayM t).isEmpty) ((et_not (et_trT (ev_var (I := dtI am mvs) ⟨rfl, em⟩))).is (by rw [hmt, Bool.not_not])) g1.sub (fun e B2 H2 g2 => ?_) fun e B2 H2 g2 => ?_
  · refine s_retq (ev_int (i := 0)) g2.sub fun v B3 H3 g3 p3 => q v B3 H3 ((g1.trans g2).trans g3) ?_
    show Rp B3 v (.int (manyW t))
    have : manyW t = 0 := by
      unfold manyW
      by_cases hb : startP t ∈ banL t
      · rw [if_pos hb]
      · rw [if_neg hb]
        rw [hnil, decide_eq_false hb, Bool.false_or] at e
        have h0 : good t (startP t) ≠ true := by simpa using e
        have z : wyF t (startP t) = [] := Classical.byContradiction fun h => h0 (good_iff.mpr h)
        unfold cnt
        rw [z]
        rfl
    rw [this]
    exact p3
  · rw [hnil, Bool.or_eq_false_iff] at e
    have hb : startP t ∉ banL t := of_decide_eq_false e.1
    have hg : good t (startP t) = true := by simpa using e.2
    have g12 := g1.trans g2
    have em2 := g2.base _ _ em
    have mv2 := mv.mono (Sd.of g2.base)
    refine s_newT fun dn hdn => ?_
    have bn : B2 dn = none := g2.sub.free hdn
    have hn0 : H dn = none := g12.top.free hdn
    have g3 : Grow B H B2 (upd H2 dn (.dT [])) := g12.put hn0 bn
    have hkm : mvs.map Prod.fst = ((keysM (wayM t)).map fun p => [p.1, p.2.1, p.2.2]).map kI := by rw [mv.1, keys_is]
    have wl := wayM_len ok
    have nd := nodup_wayM ok
    have ndr : ((wayM t).reverse.map Prod.fst).Nodup := by
      rw [List.map_reverse]
      exact (List.reverse_perm _).nodup_iff.mpr nd
    refine s_forq (wk_rev (ds := (keysM (wayM t)).map dP) ((ev_listT (a := am) (ev_var ⟨rfl, em2⟩) hkm).is (by rw [keys_dP]))) g3.sub fun B4 H4 g4 =>
      ⟨fun i σ Bi Hi => (∃ x y, σ = [some v1, some (.ref am), some (.ref dn), x, y]) ∧ Grow B H Bi Hi ∧ Bi dn = none ∧ Hi dn = some (.dT (cKv t (((wayM t).reverse.take i).map Prod.fst))), ?_, ?_, ?_⟩
    · have k4 := g4.kept bn (upd_same (H := H2) (a := dn) (o := .dT []))
      exact ⟨⟨_, _, rfl⟩, g3.trans g4, k4.1, k4.2⟩
    · rintro i x _ B5 H5 B6 H6 l ⟨⟨x0, y0, rfl⟩, gi, bi, eo⟩ s5 g6 px
      have l : i < (wayM t).length := by rw [List.length_map] at l; unfold keysM at l; rwa [List.length_map] at l
      have lr : i < (wayM t).reverse.length := by rw [List.length_reverse]; exact l
      obtain ⟨p, ns, hm⟩ : ∃ p ns, (wayM t).reverse[i] = (p, ns) := ⟨_, _, rfl⟩
      have hmem : (p, ns) ∈ wayM t := by
        have := List.getElem_mem lr
        rw [hm] at this
        exact List.mem_reverse.mp this
      obtain ⟨mp, ens, gp⟩ := mem_wayM ok hmem
      have ens : ns = (nextB t p).filter (good t) := ens
      have px : Rp B6 x ((((keysM (wayM t)).map dP).reverse).getD i .none) := px
      have e1 : (((keysM (wayM t)).map dP).reverse).getD i .none = dP p := by
        unfold keysM
        rw [List.map_map, ← List.map_reverse, getD_mapf lr, hm]
        rfl
      rw [e1] at px
      refine ⟨_, gt_name, ?_⟩
      have k6 := g6.kept bi eo
      have s26 : Same B2 B6 := g4.base.trans (s5.trans g6.base)
      have gi6 := gi.trans g6
      obtain ⟨v, hv, rv⟩ : ∃ v, valV mvs (kP p) = some v ∧ Rp B2 v (dPs ns) := by
        have hlk : lk (wayM t) p = some ns := lk_mem nd hmem
        have := Mv.get mv2 p
        rw [hlk] at this
        exact this
      have nl : ns.length ≤ 5 := by
        rw [ens]
        exact Nat.le_trans (List.length_filter_le _ _) (nextB_len t p)
      generalize hC : upd B6 dn (.dT (cKv t (((wayM t).reverse.take i).map Prod.fst))) = C
      have sc : Same B6 C := by rw [← hC]; exact same_new k6.1
      have eC : C dn = some (.dT (cKv t (((wayM t).reverse.take i).map Prod.fst))) := by rw [← hC, upd_same]
      have G : ∀ {B'}, Same C B' → EvD (tDGet (tVar 1) (tVar 3)) [some v1, some (.ref am), some (.ref dn), some x, y0] B' (dPs ns) := fun {B'} s' =>
        ev_dget (J := dt (dPs ns)) (is := [p.1, p.2.1, p.2.2]) (ev_var (I := dtI am mvs) ⟨rfl, s' _ _ (sc _ _ (s26 _ _ em2))⟩) (ev_var (I := dt (dP p)) (Rp.mono (Sd.of (sc.trans s')) px)) hv (Rp.mono (Sd.of (s26.trans (sc.trans s'))) rv)
      have front : ∀ o ∈ ns, o ∈ ((wayM t).reverse.take i).map Prod.fst := fun o ho => by
        have h2 := way_next ok hmem ho
        have hsp : (wayM t).reverse = (wayM t).reverse.take i ++ (p, ns) :: (wayM t).reverse.drop (i + 1) := by
          rw [← hm, ← List.drop_eq_getElem_cons lr, List.take_append_drop]
        have pw := List.pairwise_reverse.mpr (hour_wayM ok)
        rw [hsp] at pw
        have := in_front pw (x := (o, (nextB t o).filter (good t))) (by rw [← hsp]; exact List.mem_reverse.mpr h2) (by
          have : o ∈ nextB t p := by rw [ens] at ho; exact (List.mem_filter.mp ho).1
          have := (may_next ok mp this).2
          show p.1 < o.1
          have h9 : o.1 = p.1 + 1 := this
          omega)
        exact List.mem_map_of_mem (f := Prod.fst) this
      have E : EvD (tIf (fun σ H Q => tDGet (tVar 1) (tVar 3) σ H fun x H' => ∃ k, TruV K x H' k ∧ Q k H') (tCB (rSum K) (tCons (tLc (iList K (tDGet (tVar 1) (tVar 3))) (gName 4) tYes (tDGet (tVar 2) (tVar 4)) [4]) tNil)) (tC (.int 1))) [some v1, some (.ref am), some (.ref dn), some x, y0] C (.int (cnt t p)) := by
        refine (ev_if (b := !(ns.map dP).isEmpty) (et_lst (G (Same.refl C))) (fun e => ?_) fun e => ?_)
        · have hne : ns.isEmpty = false := by
            cases ns
            · cases e
            · rfl
          refine (ev_sum (ns := ns.map (cnt t)) ((ev_lcL (fCnt t) (wk_list (G (Same.refl C))) (by rw [List.length_map]; omega) fun d y B7 hd s7 p7 => ?_).is ?_)).is ?_
          · obtain ⟨o, ho, rfl⟩ := List.mem_map.mp hd
            exact ⟨_, true, gt_name, rfl, et_yes, (fun z => nomatch z), fun _ => ⟨.int (cnt t o), rfl, ev_dget (J := dt (.int (cnt t o))) (is := [o.1, o.2.1, o.2.2]) (ev_var (I := dtI dn _) ⟨rfl, s7 _ _ eC⟩) (ev_var (I := dt (dP o)) p7) (cKv_get (front o ho)) (.int _)⟩⟩
          · rw [List.filterMap_map, List.map_map, ← List.filterMap_eq_map]
            rfl
          · rw [cnt_sum ok mp gp, ← ens, hne, if_neg Bool.false_ne_true]
        · have hne : ns.isEmpty = true := by
            cases ns
            · rfl
            · cases e
          refine ev_int.is ?_
          rw [cnt_sum ok mp gp, ← ens, hne, if_pos rfl]
      rw [← hC] at E
      have hz : (((wayM t).reverse.take i).map Prod.fst).length ≤ 2500 := by
        rw [List.length_map, List.length_take]
        omega
      refine s_dputE (is := [p.1, p.2.1, p.2.2]) E k6.1 k6.2 g6.sub (fun B1 H1 g1 Q q => ⟨_, rfl, q⟩) (fun B1 H1 g1 => ev_var (I := dt (dP p)) (Rp.mono (Sd.of g1.base) px)) ?_ fun vc B8 H8 g8 p8 b8 e8 => ?_
      · unfold cKv
        rw [List.length_map]
        exact Nat.lt_of_le_of_lt hz (by decide)
      · have hnot : p ∉ ((wayM t).reverse.take i).map Prod.fst := fun z => by
          obtain ⟨j, hj, e2⟩ := List.mem_iff_getElem.mp z
          rw [List.length_map, List.length_take] at hj
          have e3 : ((wayM t).reverse.map Prod.fst)[j]'(by rw [List.length_map]; omega) = ((wayM t).reverse.map Prod.fst)[i]'(by rw [List.length_map]; omega) := by
            rw [List.getElem_map, List.getElem_map, hm]
            rw [List.getElem_map, List.getElem_take] at e2
            exact e2
          have := (List.getElem_inj ndr).mp e3
          omega
        have ev : vc = .int (cnt t p) := Rp.int_eq p8
        subst ev
        refine ⟨B8, s5.trans (g6.base.trans g8.base), Same.put (gi6.trans g8).sub b8, ⟨_, _, rfl⟩, (gi6.trans g8).put hn0 b8, b8, ?_⟩
        rw [upd_same, show kI [p.1, p.2.1, p.2.2] = kP p from rfl, putK_new (cKv_new hnot), List.take_succ, List.getElem?_eq_getElem lr, hm]
        unfold cKv
        rw [List.map_append, List.map_append]
        rfl
    · rintro _ B5 H5 ⟨⟨x0, y0, rfl⟩, gi, bi, eo⟩ s5 s6
      have l0 : ((keysM (wayM t)).map dP).length = (wayM t).reverse.length := by
        unfold keysM
        rw [List.length_map, List.length_map, List.length_reverse]
      rw [l0, List.take_length] at eo
      have gc := gi.commit hn0 bi eo
      have hin : startP t ∈ (wayM t).reverse.map Prod.fst := by
        rw [List.map_reverse, List.mem_reverse]
        show startP t ∈ keysM (wayM t)
        rw [keys_wayM ok, List.mem_filter]
        refine ⟨?_, hg⟩
        refine List.mem_map.mpr ⟨(startP t, nextB t (startP t)), List.mem_flatMap.mpr ⟨0, List.mem_range.mpr (by omega), List.mem_map.mpr ⟨startP t, ?_, rfl⟩⟩, rfl⟩
        rw [show layer t 0 = [startP t] from if_neg hb]
        exact List.mem_cons_self ..
      refine s_ret (ev_dget (J := dt (.int (cnt t (startP t)))) (is := [(startP t).1, (startP t).2.1, (startP t).2.2]) (ev_var (I := dtI dn _) ⟨rfl, upd_same⟩) (ev_call t (ea1 (ev_var ((trI W t).mono gc.base h1))) trivial) (cKv_get hin) (.int _)) gc.sub fun v B7 H7 g7 p7 => q v B7 H7 (gc.trans g7) ?_
      show Rp B7 v (.int (manyW t))
      unfold manyW
      rw [if_neg hb]
      exact p7
end
end Sky

set_option Elab.async false
set_option linter.all false
set_option maxRecDepth 100000
set_option maxHeartbeats 4000000
/-! is_way. -/
namespace Sky
open PySem PySem.Spec PyProof.Rows L2
/-! ### a list or a tuple -/
def seqOf : PyData → Option (List PyData)
  | .list xs => some xs
  | .tuple xs => some xs
  | _ => none
theorem seqOf_is {d : PyData} {xs : List PyData} (h : seqOf d = some xs) : d = .list xs ∨ d = .tuple xs := by
  cases d <;> simp [seqOf] at h
  · exact .inl (by rw [h])
  · exact .inr (by rw [h])
theorem seqOf_bool (d : PyData) : (isLst d || isTup d) = (seqOf d).isSome := by cases d <;> rfl
def wEi (w1 w2 : TI) : TI := fun σ H R => w1 σ H R ∨ w2 σ H R
theorem pi_ei {X : Cx} {tg it : Expr} {w1 w2 : TI} (h1 : PI X tg it w1) (h2 : PI X tg it w2) : PI X tg it (wEi w1 w2) := ⟨fun pins s σ H R I h => h.elim (h1.run pins s σ H R I) (h2.run pins s σ H R I)⟩
section
variable {K : PySem.W.Frag} {σ : L2.St} {H : Hp} {ta tb : TE} {d e : PyData} {xs : List PyData} {i : Int}
theorem ev_ixS (hs : seqOf d = some xs) (h : EvD ta σ H d) (hi : EvD tb σ H (.int i)) (hx : atI xs i = some e) : EvD (tEi (tOp (rIxL K) ta tb) (tOp (rIxT K) ta tb)) σ H e := by
  rcases seqOf_is hs with rfl | rfl
  · exact ev_l (ev_op h hi (rv_ixL hx))
  · exact ev_r (ev_op h hi (rv_ixT hx))
theorem rc_lenS (hs : seqOf d = some xs) : RcI (rLn K) [dt d] (dt (.int xs.length)) := by
  rcases seqOf_is hs with rfl | rfl
  · exact rc_len
  · exact rc_lenT
theorem wk_S (hs : seqOf d = some xs) (h : EvD ta σ H d) : Wk (wEi (iList K ta) (iTup K ta)) σ H xs.length (dts xs) := by
  rcases seqOf_is hs with rfl | rfl
  · exact fun H1 s R r => .inl (wk_list h H1 s R r)
  · exact fun H1 s R r => .inr (wk_tup h H1 s R r)
end
def unP : PyData → Place
  | .tuple [.int a, .int b, .int c] => (a, b, c)
  | _ => (0, 0, 0)
theorem unP_dP (p : Place) : unP (dP p) = p := rfl
def chainB (ps : List Place) : Bool := (List.range (ps.length - 1)).all fun i => followsB (ps.getD i (0, 0, 0)) (ps.getD (i + 1) (0, 0, 0))
def okEnds (t : Tr) (ps : List Place) : Bool := decide (ps.head? = some (startP t)) && decide (ps.getLast? = some (goalP t))
def isWayB (t : Tr) (d : PyData) : Bool := match seqOf d with
  | none => false
  | some xs => decide ((xs.length : Int) = t.l - t.e + 1) && (xs.all (mayG t) && (okEnds t (xs.map unP) && chainB (xs.map unP)))
theorem mayG_of {t : Tr} {d : PyData} (h : mayG t d = true) : ∃ p, d = dP p ∧ May t p := by
  unfold mayG at h
  rw [Bool.and_eq_true] at h
  obtain ⟨h1, h2⟩ := h
  unfold mayB at h1
  rw [Bool.and_eq_true] at h1
  obtain ⟨p, rfl, hp⟩ := inCh_of h1.1
  have h3 := h1.2
  rw [Bool.and_eq_true] at h3
  refine ⟨p, rfl, hp, of_decide_eq_true h3.1, of_decide_eq_true h3.2, ?_⟩
  unfold banL
  cases hb : t.ban with
  | none => simp
  | some ps =>
    rw [banned_dP hb] at h2
    simpa using h2
theorem all_places {t : Tr} : ∀ {xs : List PyData}, xs.all (mayG t) = true → ∃ ps : List Place, xs = ps.map dP ∧ ∀ p ∈ ps, May t p
  | [], _ => ⟨[], rfl, fun _ h => nomatch h⟩
  | x :: xs, h => by
    rw [List.all_cons, Bool.and_eq_true] at h
    obtain ⟨p, rfl, hp⟩ := mayG_of h.1
    obtain ⟨ps, rfl, hps⟩ := all_places h.2
    exact ⟨p :: ps, rfl, fun q hq => by
      rcases List.mem_cons.mp hq with e | hq
      · rw [e]; exact hp
      · exact hps q hq⟩
section
variable {P : Program} {w : World} {K : PySem.W.Frag} {mg : Str → Option Value} {base : Heap} {W : Wd}
abbrev spIsWay (W : Wd) : Sp := SpF (fun x : Tr × PyData => [trI W x.1, dt x.2]) (fun x => TrOk x.1 ∧ ∀ xs, seqOf x.2 = some xs → xs.length ≤ 1000) fun x => dt (.bool (isWayB x.1 x.2))
theorem unP_map (ps : List Place) : (ps.map dP).map unP = ps := by
  rw [List.map_map]
  have : unP ∘ dP = id := rfl
  rw [this, List.map_id]
theorem sc_is_way : FnScope ["trip", "value", "place", "at"] ["trip", "value"] (defScope s_is_way) := C8.fnScope_by (by decide +kernel)
theorem ok_is_way (T : Bt mg) (Z : Kc K mg W) (cfollows : C8.Cal P w K mg base 1 "follows" spFollows []) (cstart_place : C8.Cal P w K mg base 1 "start_place" (spStart W) []) (cgoal_place : C8.Cal P w K mg base 1 "goal_place" (spGoal W) []) (mTmay_be : C8.Met P w K mg base 5 W.ct "may_be" (spMayT W) []) (mGmay_be : C8.Met P w K mg base 6 W.cg "may_be" (spMayG W) []) (F : Dfn K mg "is_way" s_is_way ["trip", "value"]) : C8.Cal P w K mg base 7 "is_way" (spIsWay W) [] := by
  have sc := sc_is_way
  refine F.cal sc (SpF.len fun _ => rfl) fun f cdv A outer s H vs Q E hr hsp => ?_
  refine ⟨_, (pss_cons (ps_if (PW.pt (pw_or (pt_not (pt_val (pe_callB call_isiT (by rfl) T.n_isinstance bb_isinstance (pa_cons (pv 1) (pa_cons (pe_tup (pa_cons (pe_bltn (v := .ty "list") (by rfl) T.n_list bb_list rfl) (pa_cons (pe_bltn (v := .ty "tuple") (by rfl) T.n_tuple bb_tuple rfl) pa_nil))) pa_nil))))) (pw_or1 (pt_cmpR op_ne (pe_callB call_len_seq (by rfl) T.n_len bb_len (pa_cons (pv 1) pa_nil)) (pe_op op_add (pe_op op_sub (pe_fld (pv 0) rfl) (pe_fld (pv 0) rfl)) pe_int) (nomark _))))) (pss_one (ps_ret pe_bl)) pss_nil)
    (pss_cons (ps_if (pt_not (pt_val (pe_callB (cr_all rfl) (by rfl) T.n_all bb_all (pa_cons (pe_lc (own := [("place", 2)]) rfl sc.nd (pi_ei (pi_list (pv 1)) (pi_tup (pv 1))) (blkOk_by (own := [("place", 2)]) (N := ["trip", "value", "place", "at"]) (sc := defScope s_is_way) (by decide +kernel)) (fun _ _ _ _ _ => (pg_name (i := 2) sc.nd rfl (by first | exact Or.inl rfl | exact Or.inr rfl))) (fun _ _ _ _ _ => pts_nil) (fun _ _ _ _ _ => (pe_ei (C8.pe_mt mTmay_be hr (by decide) (pv 0) (pa_cons (pv 2) pa_nil)) (C8.pe_mt mGmay_be hr (by decide) (pv 0) (pa_cons (pv 2) pa_nil))))) pa_nil)))) (pss_one (ps_ret pe_bl)) pss_nil)
    (pss_cons (ps_if (PW.pt (pw_or (pt_cmpR (op_neD (hud hr)) (pe_ei (pe_ix ix_list (pv 1) pe_int (fun _ _ => rfl)) (pe_ix ix_tup (pv 1) pe_int (fun _ _ => rfl))) (C8.pe_c cstart_place hr (by decide) (by rfl) (pa_cons (pv 0) pa_nil)) (nomark _)) (pw_or1 (pt_cmpR (op_neD (hud hr)) (pe_ei (pe_ix ix_list (pv 1) (pe_un un_neg pe_int) (fun _ _ => rfl)) (pe_ix ix_tup (pv 1) (pe_un un_neg pe_int) (fun _ _ => rfl))) (C8.pe_c cgoal_place hr (by decide) (by rfl) (pa_cons (pv 0) pa_nil)) (nomark _))))) (pss_one (ps_ret pe_bl)) pss_nil)
    (pss_one (ps_ret (pe_callB (cr_all rfl) (by rfl) T.n_all bb_all (pa_cons (pe_lc (own := [("at", 3)]) rfl sc.nd (pi_range1 (by rfl) T.n_range (pa_cons (pe_op op_sub (pe_callB call_len_seq (by rfl) T.n_len bb_len (pa_cons (pv 1) pa_nil)) pe_int) pa_nil)) (blkOk_by (own := [("at", 3)]) (N := ["trip", "value", "place", "at"]) (sc := defScope s_is_way) (by decide +kernel)) (fun _ _ _ _ _ => (pg_name (i := 3) sc.nd rfl (by first | exact Or.inl rfl | exact Or.inr rfl))) (fun _ _ _ _ _ => pts_nil) (fun _ _ _ _ _ => (C8.pe_c cfollows hr (by decide) (by rfl) (pa_cons (pe_ei (pe_ix (ix_listK K rfl) (pv 1) (pv 3) (fun _ _ => rfl)) (pe_ix (ix_tupK K rfl) (pv 1) (pv 3) (fun _ _ => rfl))) (pa_cons (pe_ei (pe_ix (ix_listK K rfl) (pv 1) (pe_op op_add (pv 3) pe_int) (fun _ _ => rfl)) (pe_ix (ix_tupK K rfl) (pv 1) (pe_op op_add (pv 3) pe_int) (fun _ _ => rfl))) pa_nil))))) pa_nil))))))), ?_⟩
  obtain ⟨⟨t, d⟩, B, hp, s0, ha, q⟩ := hsp
  dsimp only at hp ha q
  obtain ⟨v1, v2, rfl, h1, h2⟩ := ita2 ha
  obtain ⟨ok, hlen⟩ := hp
  cases hs : seqOf d with
  | none =>
    refine s_ifY (et_or (b := true) (c := true) ((et_not (et_B (ev_isiLT (ev_var h2)))).is (by rw [seqOf_bool, hs]; rfl)) fun e => nomatch e) s0 fun B1 H1 g1 => ?_
    refine s_retq (ev_bl (b := false)) g1.sub fun v B2 H2 g2 p2 => q v B2 H2 (g1.trans g2) ?_
    have : isWayB t d = false := by
      unfold isWayB
      rw [hs]
    rw [this]
    exact p2
  | some xs =>
    have hl := hlen xs hs
    refine s_if1 (b := !decide ((xs.length : Int) = t.l - t.e + 1)) ((et_or (b := false) ((et_not (et_B (ev_isiLT (ev_var h2)))).is (by rw [seqOf_bool, hs]; rfl)) fun _ => et_test (ev_neI (ev_cb (ea1 (ev_var h2)) (rc_lenS hs)) (ev_i (ev_i (ev_trLast Z (ev_var h1)) (ev_trFirst Z (ev_var h1))) ev_int))).is (Bool.false_or _)) s0 (fun e B1 H1 g1 => ?_) fun e B1 H1 g1 => ?_
    · refine s_retq (ev_bl (b := false)) g1.sub fun v B2 H2 g2 p2 => q v B2 H2 (g1.trans g2) ?_
      have : isWayB t d = false := by
        unfold isWayB
        rw [hs]
        dsimp only
        have : decide ((xs.length : Int) = t.l - t.e + 1) = false := by simpa using e
        rw [this]
        rfl
      rw [this]
      exact p2
    have hz : decide ((xs.length : Int) = t.l - t.e + 1) = true := by simpa using e
    have h1 := (trI W t).mono g1.base h1
    have h2 : Rp B1 v2 d := Rp.mono (Sd.of g1.base) h2
    refine s_if1 (b := !xs.all (mayG t)) ((et_not (et_B (ev_all (bs := xs.map (mayG t)) ((ev_lcL (fun d => some (.bool (mayG t d))) (wk_S hs (ev_var h2)) (by omega) fun z y B2 hd s2 p2 => ?_).is ?_)))).is ?_) g1.sub (fun e B2 H2 g2 => ?_) fun e B2 H2 g2 => ?_
    · exact ⟨_, true, gt_name, rfl, et_yes, (fun z => nomatch z), fun _ => ⟨_, rfl, ev_may (ev_var ((trI W t).mono s2 h1)) (ea1 (ev_var (I := dt z) p2)) ok⟩⟩
    · rw [← List.filterMap_eq_map, List.filterMap_map]
      congr 1
    · rw [List.all_map]
      rfl
    · refine s_retq (ev_bl (b := false)) g2.sub fun v B3 H3 g3 p3 => q v B3 H3 ((g1.trans g2).trans g3) ?_
      have : isWayB t d = false := by
        unfold isWayB
        rw [hs]
        dsimp only
        have : xs.all (mayG t) = false := by simpa using e
        rw [this, Bool.false_and, Bool.and_false]
      rw [this]
      exact p3
    have ha' : xs.all (mayG t) = true := by simpa using e
    obtain ⟨ps, rfl, hps⟩ := all_places ha'
    have h1 := (trI W t).mono g2.base h1
    have h2 : Rp B2 v2 d := Rp.mono (Sd.of g2.base) h2
    rw [List.length_map] at hl
    have hel := ok.el
    have hpl : (ps.length : Int) = t.l - t.e + 1 := by
      rw [List.length_map] at hz
      exact of_decide_eq_true hz
    obtain ⟨p0, hp0⟩ : ∃ p0, ps[0]? = some p0 := ⟨ps[0]'(by omega), List.getElem?_eq_getElem (by omega)⟩
    obtain ⟨pn, hpn⟩ : ∃ pn, ps[ps.length - 1]? = some pn := ⟨ps[ps.length - 1]'(by omega), List.getElem?_eq_getElem (by omega)⟩
    have a0 : atI (ps.map dP) ((0 : Nat) : Int) = some (dP p0) := atI_nat (by rw [List.getElem?_map, hp0]; rfl)
    have an : atI (ps.map dP) (-1) = some (dP pn) := by
      unfold atI ixN
      rw [List.length_map, if_neg (by omega), if_pos (by omega)]
      have : ((-1 : Int) + (ps.length : Int)).toNat = ps.length - 1 := by omega
      show (ps.map dP)[((-1 : Int) + (ps.length : Int)).toNat]? = _
      rw [this, List.getElem?_map, hpn]
      rfl
    have hends : okEnds t ps = (decide (p0 = startP t) && decide (pn = goalP t)) := by
      unfold okEnds
      rw [List.head?_eq_getElem?, hp0, List.getLast?_eq_getElem?, hpn]
      rw [decide_eq_decide.mpr (Option.some_inj (a := p0) (b := startP t)), decide_eq_decide.mpr (Option.some_inj (a := pn) (b := goalP t))]
    have hval : isWayB t d = (okEnds t ps && chainB ps) := by
      unfold isWayB
      rw [hs]
      dsimp only
      rw [hz, ha', unP_map, Bool.true_and, Bool.true_and]
    refine s_if1 (b := !okEnds t ps) ((et_or (et_test (ev_op (ev_ixS hs (ev_var h2) (ev_int (i := ((0 : Nat) : Int))) a0) (ev_call t (ea1 (ev_var h1)) trivial) (rv_neD (sh_dP _) (sh_dP _)))) fun _ => et_test (ev_op (ev_ixS hs (ev_var h2) (ev_un (g := fun i => -i) (ev_int (i := 1))) an) (ev_call t (ea1 (ev_var h1)) trivial) (rv_neD (sh_dP _) (sh_dP _)))).is ?_) g2.sub (fun e B3 H3 g3 => ?_) fun e B3 H3 g3 => ?_
    · rw [eqv_dP, eqv_dP, hends, Bool.not_and]
    · refine s_retq (ev_bl (b := false)) g3.sub fun v B4 H4 g4 p4 => q v B4 H4 (((g1.trans g2).trans g3).trans g4) ?_
      have : isWayB t d = false := by
        rw [hval]
        have : okEnds t ps = false := by simpa using e
        rw [this]
        rfl
      rw [this]
      exact p4
    have h2 : Rp B3 v2 d := Rp.mono (Sd.of g3.base) h2
    have hoe : okEnds t ps = true := by simpa using e
    refine s_ret ((ev_all (bs := (List.range (ps.length - 1)).map fun i => followsB (ps.getD i (0, 0, 0)) (ps.getD (i + 1) (0, 0, 0))) ((ev_lc (fun i => some (.bool (followsB (ps.getD i (0, 0, 0)) (ps.getD (i + 1) (0, 0, 0))))) (wk_r1 (j := (((ps.map dP).length : Nat) : Int) - 1) (ev_i (ev_cb (ea1 (ev_var h2)) (rc_lenS hs)) ev_int) (by rw [List.length_map]; omega) (by rw [List.length_map]; omega)) (by rw [List.length_map]; omega) fun i y B4 hi s4 p4 => ?_).is ?_)).is ?_) g3.sub fun v B4 H4 g4 p4 => q v B4 H4 (((g1.trans g2).trans g3).trans g4) p4
    · rw [List.length_map] at hi
      have hi : i < ps.length - 1 := by omega
      have p4 : Rp B4 y (.int (0 + (i : Int))) := p4
      rw [Int.zero_add] at p4
      have h2 : Rp B4 v2 d := Rp.mono (Sd.of s4) h2
      have ei : ps.getD i (0, 0, 0) = ps[i]'(by omega) := by simp [List.getD, show i < ps.length by omega]
      have ej : ps.getD (i + 1) (0, 0, 0) = ps[i + 1]'(by omega) := by simp [List.getD, show i + 1 < ps.length by omega]
      have ai : atI (ps.map dP) ((i : Nat) : Int) = some (dP (ps.getD i (0, 0, 0))) := atI_nat (by rw [List.getElem?_map, List.getElem?_eq_getElem (by omega : i < ps.length), ei]; rfl)
      have aj : atI (ps.map dP) ((i : Int) + 1) = some (dP (ps.getD (i + 1) (0, 0, 0))) := atI_nat (j := i + 1) (by rw [List.getElem?_map, List.getElem?_eq_getElem (by omega : i + 1 < ps.length), ej]; rfl)
      exact ⟨_, true, gt_name, rfl, et_yes, (fun z => nomatch z), fun _ => ⟨_, rfl, ev_call (ps.getD i (0, 0, 0), ps.getD (i + 1) (0, 0, 0)) (ea_cons (ev_ixS hs (ev_var (I := dt d) h2) (ev_var (I := dt (.int (i : Int))) p4) ai) (ea1 (ev_ixS hs (ev_var (I := dt d) h2) (ev_i (ev_var (I := dt (.int (i : Int))) p4) ev_int) aj))) trivial⟩⟩
    · have : ((((ps.map dP).length : Nat) : Int) - 1).toNat = ps.length - 1 := by rw [List.length_map]; omega
      rw [this, List.map_map, ← List.filterMap_eq_map]
      rfl
    · rw [hval, hoe, Bool.true_and, List.all_map]
      rfl
end
end Sky

set_option Elab.async false
set_option linter.all false
set_option maxRecDepth 100000
set_option maxHeartbeats 4000000
/-! A generator that a list comprehension consumes: while it sleeps two things change, the list S and the comprehension's frame C. -/
namespace Sky
open PySem PySem.Spec PyProof.Rows L2 GenW
/-- what may happen while it sleeps -/
structure Nap (S C : Addr) (v : Value) (s s' : Shared) : Prop where
  os : s'.os = s.os
  bare : AllBare s'.gens
  keep : ∀ b o, b ≠ S → b ≠ C → s.heap.get? b = some o → s'.heap.get? b = some o
  own : ∀ acc c, s.heap.get? S = some (lstObj acc c) → ∃ c', s'.heap.get? S = some (lstObj (acc.push v) c')
  fra : ∃ oc, s'.heap.get? C = some oc ∧ ∀ v, oc.data ≠ .cell v
/-- S and C are none of the generator's -/
structure Far (X : Cx) (S C : Addr) : Prop where
  ne : S ≠ C
  s1 : X.s_0.heap.objs.size ≤ S
  s2 : S ≠ X.env.locals
  s3 : ∀ x c, X.env.cells.lookup x = some c → c ≠ S
  s4 : ∀ p ∈ X.pn, p.1 ≠ S
  c1 : X.s_0.heap.objs.size ≤ C
  c2 : C ≠ X.env.locals
  c3 : ∀ x c, X.env.cells.lookup x = some c → c ≠ C
  c4 : ∀ p ∈ X.pn, p.1 ≠ C
/-- it runs: ys is out; since it was woken at s₀ nobody touched C -/
def GJ (X : Cx) (S C : Addr) (s₀ : Shared) (ys : List V) (σ : L2.St) (H : Hp) (s : Shared) : Prop :=
  ∃ (acc : Array Value) (c : Nat) (oc : Obj), Vals ys acc.toList ∧ s₀.heap.get? C = some oc ∧ Inv X [(S, lstObj acc c), (C, oc)] σ H s
section
variable {X : Cx} {S C : Addr} {s₀ s s' : Shared} {ys : List V} {σ : L2.St} {H : Hp} {x : V} {v : Value}
theorem GJ.pinS {acc : Array Value} {c : Nat} {oc : Obj} (I : Inv X [(S, lstObj acc c), (C, oc)] σ H s) : s.heap.get? S = some (lstObj acc c) ∧ H S = none ∧ S ≠ X.env.locals ∧ S ∉ X.fs :=
  let p := I.pin (S, lstObj acc c) (List.mem_append_right _ List.mem_cons_self)
  ⟨p.1, p.2.1, p.2.2.1, p.2.2.2.1⟩
theorem GJ.pinC {acc : Array Value} {c : Nat} {oc : Obj} (I : Inv X [(S, lstObj acc c), (C, oc)] σ H s) : s.heap.get? C = some oc ∧ H C = none ∧ C ≠ X.env.locals ∧ C ∉ X.fs :=
  let p := I.pin (C, oc) (List.mem_append_right _ (List.mem_cons_of_mem _ List.mem_cons_self))
  ⟨p.1, p.2.1, p.2.2.1, p.2.2.2.1⟩
theorem GJ.woken (far : Far X S C) (h : GJ X S C s₀ ys σ H s) (rv : RelV x v) (z : Nap S C v s s') : GJ X S C s' (ys ++ [x]) σ H s' := by
  obtain ⟨acc, c, oc, r, _, I⟩ := h
  obtain ⟨eS, hS, lS, fS⟩ := GJ.pinS I
  obtain ⟨eC, hC, lC, fC⟩ := GJ.pinC I
  obtain ⟨z1, z2, z3, z4, oc', z5, z6⟩ := z
  obtain ⟨c', eS'⟩ := z4 acc c eS
  have I0 : Inv X [] σ H s := I.pins_of fun p hp => absurd hp List.not_mem_nil
  obtain ⟨hh, g, d, t, o⟩ := s'
  have ho : o = s.os := z1
  subst ho
  have out : ∀ b, b ∉ [S, C] → b ≠ S ∧ b ≠ C := fun b hb => ⟨fun e => hb (by rw [e]; exact List.mem_cons_self), fun e => hb (by rw [e]; simp)⟩
  have tr : ∀ b u, H b = some u → b ≠ S ∧ b ≠ C := fun b u q => ⟨fun e => (by rw [e, hS] at q; cases q), fun e => (by rw [e, hC] at q; cases q)⟩
  have J : Inv X [] σ H { s with heap := hh, gens := g, drawn := d, toks := t } := by
    refine I0.step (g' := g) (t' := t) (d' := d) (ch := [S, C]) (fun b hb => ?_)
      (fun b ob _ _ hc q _ => z3 b ob (out b hc).1 (out b hc).2 q) (fun b ob _ _ hc q _ => ⟨ob.slots, z3 b ob (out b hc).1 (out b hc).2 q⟩) (fun _ _ _ _ n => n) (fun b ob hc q => ⟨ob, z3 b ob (out b hc).1 (out b hc).2 q⟩)
      (fun _ _ q => q) (fun _ _ _ q => q) (fun b ps q => ⟨#[], by rw [q]; simp⟩) (fun m hm => ?_) (fun b u q => ?_) z2
    · rcases List.mem_cons.mp hb with e | hb
      · rw [e]
        exact ⟨.inr far.s1, far.s2, far.s3, fun p hp => far.s4 p (by simpa using hp)⟩
      · rw [List.mem_singleton.mp hb]
        exact ⟨.inr far.c1, far.c2, far.c3, fun p hp => far.c4 p (by simpa using hp)⟩
    · obtain ⟨ob, es, ep, hob, rr⟩ := hm
      exact ⟨ob, es, ep, z3 _ ob lS.symm lC.symm hob, rr⟩
    · refine (I0.hok b u q).stay (fun c v hc y => ?_) (fun _ y => y) fun _ _ y => y
      have hcb : c ≠ S ∧ c ≠ C := by
        rcases hc with y | y
        · rw [y]
          exact tr b u q
        · exact tr c _ y
      exact z3 c v hcb.1 hcb.2 y
  refine ⟨acc.push v, c', oc', ?_, z5, J.pins_of fun p hp => ?_⟩
  · rw [Array.toList_push]
    exact r.append (.cons rv .nil)
  · rcases List.mem_cons.mp hp with hp | hp
    · rw [hp]
      exact ⟨eS', hS, lS, fS, fun v q => by cases q⟩
    · rw [List.mem_singleton.mp hp]
      exact ⟨z5, hC, lC, fC, z6⟩
end
/-! ### its statements -/
def GY2 (X : Cx) (S C : Addr) : Protocol := fun n s₀ v s kap => ∃ ys x σ H, n + 1 + ys.length = sizeLine ∧ RelV x v ∧ GJ X S C s₀ ys σ H s ∧ ∀ s', Nap S C v s s' → kap (.send .none) s'
def GF (X : Cx) (S C : Addr) (s₀ : Shared) (D : GEnds) (ys : List V) (f : Flow) (s : Shared) : Prop := ∃ σ H, GJ X S C s₀ ys σ H s ∧ match f with
  | .next => D.nx ys σ H
  | .brk => D.bk ys σ H
  | .cont => D.ct ys σ H
  | .ret u => ∃ v, RelV v u ∧ D.rt ys v H
structure GC2 (X : Cx) (S C : Addr) (A : Around) (c : Code) (fs : List Frame) (gd : Bool → Bool) : Prop where
  far : Far X S C
  over : A.over c fs = X.A
  split : splitAtGen fs = none
  guard : fs.any Frame.guarded = false
  gd : gd false = false
/-- a piece of the body -/
structure GM (X : Cx) (m : Sem Flow) (t : TGn) : Prop where
  run : ∀ (A : Around) (S C : Addr) (R : GenEnd) (n : Nat) (ys : List V) (s₀ : Shared) (c : Code) (fs : List Frame) (K : Flow → Sem PySem.Fin) (J : Value → Sem PySem.Fin) (gd : Bool → Bool) (lv : List Value → List Value) (s : Shared) (σ : L2.St) (H : Hp) (D : GEnds),
    GC2 X S C A c fs gd → n + ys.length = sizeLine → (∀ (n : Nat) (ys : List V) (s₀ s : Shared) (f : Flow), n + ys.length = sizeLine → GF X S C s₀ D ys f s → Seg (model X.prog X.w) A R (GY2 X S C) n s₀ c (K f) fs s) →
    GJ X S C s₀ ys σ H s → t D ys σ H → Seg (model X.prog X.w) A R (GY2 X S C) n s₀ c (m.wrap K J gd lv) fs s
section
variable {X : Cx} {st : Stmt} {b a rest : List Stmt} {t u : TGn} {e : Expr} {te : TE} {tc : TT} {pos yp : Pos}
theorem gf_of {S C : Addr} {s₀ s : Shared} {acc : Array Value} {c : Nat} {oc : Obj} {D : GEnds} {ys : List V} {f : Flow} (r : Vals ys acc.toList) (h0 : s₀.heap.get? C = some oc) (h : SP X [(S, lstObj acc c), (C, oc)] (D.at ys) f s) : GF X S C s₀ D ys f s := by
  cases f with
  | next => obtain ⟨σ, H, I, q⟩ := h; exact ⟨σ, H, ⟨acc, c, oc, r, h0, I⟩, q⟩
  | brk => obtain ⟨σ, H, I, q⟩ := h; exact ⟨σ, H, ⟨acc, c, oc, r, h0, I⟩, q⟩
  | cont => obtain ⟨σ, H, I, q⟩ := h; exact ⟨σ, H, ⟨acc, c, oc, r, h0, I⟩, q⟩
  | ret u => obtain ⟨v, σ, H, I, r1, q⟩ := h; exact ⟨σ, H, ⟨acc, c, oc, r, h0, I⟩, v, r1, q⟩
theorem gm_pss {ts : TS} (h : PSs X.nox b ts) : GM X (execs b X.env) (tPlain ts) := by
  refine ⟨fun A S C R n ys s₀ c fs K J gd lv s σ H D g hn k hI ht => ?_⟩
  obtain ⟨acc, cc, oc, r, h0, I⟩ := hI
  refine seg_wrap ?_
  rw [g.over]
  exact wpAny_mono (h.run _ s σ H (D.at ys) (I.wish _) ht) (fun f s' hs => k n ys s₀ s' f hn (gf_of r h0 hs.unwish)) fun _ _ z => False.elim z
theorem gm_ps {ts : TS} (h : PS X.nox st ts) : GM X (exec st X.env) (tPlain ts) := by
  refine ⟨fun A S C R n ys s₀ c fs K J gd lv s σ H D g hn k hI ht => ?_⟩
  obtain ⟨acc, cc, oc, r, h0, I⟩ := hI
  refine seg_wrap ?_
  rw [g.over]
  exact wpAny_mono (h.run _ s σ H (D.at ys) (I.wish _) ht) (fun f s' hs => k n ys s₀ s' f hn (gf_of r h0 hs.unwish)) fun _ _ z => False.elim z
theorem gm_nil : GM X (execs [] X.env) tG0 := by
  refine ⟨fun A S C R n ys s₀ c fs K J gd lv s σ H D g hn k hI ht => ?_⟩
  exact seg_execs_nil (k n ys s₀ s .next hn ⟨σ, H, hI, ht⟩)
theorem gm_cons (h1 : GM X (exec st X.env) t) (h2 : GM X (execs rest X.env) u) : GM X (execs (st :: rest) X.env) (tGThen t u) := by
  refine ⟨fun A S C R n ys s₀ c fs K J gd lv s σ H D g hn k hI ht => ?_⟩
  refine seg_execs_cons (h1.run A S C R n ys s₀ c fs _ J gd lv s σ H { D with nx := fun y1 σ1 H1 => u D y1 σ1 H1 } g hn (fun n1 y1 z0 s1 f hn1 hs => ?_) hI ht)
  obtain ⟨σ1, H1, I1, q⟩ := hs
  cases f with
  | next => exact h2.run A S C R n1 y1 z0 c fs K J gd lv s1 σ1 H1 D g hn1 k I1 q
  | brk => exact k n1 y1 z0 s1 .brk hn1 ⟨σ1, H1, I1, q⟩
  | cont => exact k n1 y1 z0 s1 .cont hn1 ⟨σ1, H1, I1, q⟩
  | ret w => exact k n1 y1 z0 s1 (.ret w) hn1 ⟨σ1, H1, I1, q⟩
def tGIf (tc : TT) (t u : TGn) : TGn := fun D ys σ H => tc σ H fun d H1 => if d = true then t D ys σ H1 else u D ys σ H1
theorem gm_if (hc : PT X.nox e tc) (h1 : GM X (execs a X.env) t) (h2 : GM X (execs b X.env) u) : GM X (exec (.If e a b pos) X.env) (tGIf tc t u) := by
  refine ⟨fun A S C R n ys s₀ c fs K J gd lv s σ H D g hn k hI ht => ?_⟩
  obtain ⟨acc, cc, oc, r, h0, I⟩ := hI
  rw [exec_If]
  refine seg_at ?_
  show Seg _ _ _ _ n s₀ c ((isTrue e X.env (eval e X.env) >>= fun d => if d = true then execs a X.env else execs b X.env).wrap K J gd lv) fs s
  refine seg_bind_wrap ?_
  rw [g.over]
  refine wpAny_mono (hc.run _ s σ H _ (I.wish _) ht) (fun d s1 ⟨H1, I1, q⟩ => ?_) fun _ _ z => False.elim z
  have G1 : GJ X S C s₀ ys σ H1 s1 := ⟨acc, cc, oc, r, h0, I1.unwish⟩
  cases d with
  | true =>
    rw [if_pos rfl] at q ⊢
    exact h1.run A S C R n ys s₀ c fs K J gd lv s1 σ H1 D g hn k G1 q
  | false =>
    rw [if_neg Bool.false_ne_true] at q ⊢
    exact h2.run A S C R n ys s₀ c fs K J gd lv s1 σ H1 D g hn k G1 q
theorem gm_yield (he : PE X.nox e te) (hco : X.env.scope.isCoroutine = false) (hi : interactive X.env = false) : GM X (exec (.Expr (.Yield (some e) yp) pos) X.env) (tGYield te) := by
  refine ⟨fun A S C R n ys s₀ c fs K J gd lv s σ H D g hn k hI ht => ?_⟩
  obtain ⟨lt, ht⟩ := ht
  obtain ⟨m, rfl⟩ : ∃ m, n = m + 1 := ⟨n - 1, by omega⟩
  obtain ⟨acc, cc, oc, r, h0, I⟩ := hI
  refine seg_Expr_Yield g.split g.gd g.guard ?_ hco hi
  rw [g.over]
  refine wpAny_mono (he.run _ s σ H _ (I.wish _) ht) (fun v s1 ⟨x, H1, I1, rv, q⟩ => ?_) fun _ _ z => False.elim z
  have G1 : GJ X S C s₀ ys σ H1 s1 := ⟨acc, cc, oc, r, h0, I1.unwish⟩
  intro kap hk
  refine ⟨ys, x, σ, H1, hn, rv, G1, fun s2 z => hk .none s2 ?_⟩
  refine k m (ys ++ [x]) s2 s2 .next ?_ ⟨σ, H1, G1.woken g.far rv z, q⟩
  rw [List.length_append, List.length_singleton]
  omega
theorem gc_in {S C : Addr} {A : Around} {c d : Code} {fs : List Frame} {gd : Bool → Bool} {k : Result → Sem PySem.Fin} {l kp : List Value} {p : Pos} (g : GC2 X S C A c fs gd) (hw : d.weight = 0) (hu : d.cUnits = 0) : GC2 X S C A d (.ret k none (gd false) l c p kp :: fs) id := by
  refine ⟨g.far, (over_loop hw hu).trans g.over, ?_, ?_, rfl⟩
  · show (splitAtGen fs).map _ = none
    rw [g.split]
    rfl
  · show (gd false || fs.any Frame.guarded) = false
    rw [g.gd, g.guard]
    rfl
theorem gm_while (hc : PT X.nox e tc) (hb : GM X (execs b X.env) t) : GM X (exec (.While e b [] pos) X.env) (tGWhile tc t) := by
  refine ⟨fun A S C R n ys s₀ c fs K J gd lv s σ H D g hn k hI ht => ?_⟩
  obtain ⟨W, ⟨m0, w0⟩, turn⟩ := ht
  refine seg_While fun p => ?_
  generalize hk : (fun r : Result => ((match r with | .ok f => (.pure f : Sem Flow) | .error e => .raise e).onRaise fun (x : Value) => do
        if (← field x 1) == Value.none then unsupported "frame.own-activation:exception-without-traceback"
        setFlight x X.env.frame).wrap K J gd lv) = kk
  have kok : ∀ f : Flow, kk (.ok f) = K f := fun f => by rw [← hk]; rfl
  have gl := gc_in (k := kk) (d := .whileLoop e b [] X.env) (l := lv []) (kp := []) (p := p) g rfl rfl
  have loop : ∀ (m n : Nat) (ys : List V) (z0 s : Shared) (σ : L2.St) (H : Hp), n + ys.length = sizeLine → W m ys σ H → GJ X S C z0 ys σ H s →
      Seg (model X.prog X.w) A R (GY2 X S C) n z0 (.whileLoop e b [] X.env) ((model X.prog X.w).den (.whileLoop e b [] X.env)) (.ret kk none (gd false) (lv []) c p [] :: fs) s := by
    intro m
    induction m using Nat.strongRecOn with
    | ind m ih =>
      intro n ys z0 s σ H hn w hI
      obtain ⟨acc, cc, oc, r, h0, I⟩ := hI
      refine seg_whileLoop ?_
      rw [gl.over]
      refine wpAny_mono (hc.run _ s σ H _ (I.wish _) (turn m ys σ H w)) (fun d s1 ⟨H1, I1, q⟩ => ?_) fun _ _ z => False.elim z
      have G1 : GJ X S C z0 ys σ H1 s1 := ⟨acc, cc, oc, r, h0, I1.unwish⟩
      cases d with
      | true =>
        rw [if_pos rfl] at q ⊢
        obtain ⟨N, hN, q⟩ := q
        refine hb.run A S C R n ys z0 _ _ _ _ id id s1 σ H1 { D with nx := N, ct := N, bk := D.nx } gl hn (fun n1 y1 z1 s2 f hn1 hs => ?_) G1 q
        obtain ⟨σ2, H2, I2, q2⟩ := hs
        cases f with
        | next =>
          obtain ⟨m1, hm, w1⟩ := hN y1 σ2 H2 q2
          exact seg_again rfl (ih m1 hm n1 y1 z1 s2 σ2 H2 hn1 w1 I2)
        | cont =>
          obtain ⟨m1, hm, w1⟩ := hN y1 σ2 H2 q2
          exact seg_again rfl (ih m1 hm n1 y1 z1 s2 σ2 H2 hn1 w1 I2)
        | brk =>
          refine seg_leaf (.ok .next) ?_
          rw [kok]
          exact k n1 y1 z1 s2 .next hn1 ⟨σ2, H2, I2, q2⟩
        | ret v =>
          refine seg_leaf (.ok (.ret v)) ?_
          rw [kok]
          exact k n1 y1 z1 s2 (.ret v) hn1 ⟨σ2, H2, I2, q2⟩
      | false =>
        rw [if_neg Bool.false_ne_true] at q ⊢
        refine seg_execs_nil (seg_leaf (.ok .next) ?_)
        rw [kok]
        exact k n ys z0 s1 .next hn ⟨σ, H1, G1, q⟩
  exact loop m0 n ys s₀ s σ H hn w0 hI
end
end Sky

set_option Elab.async false
set_option linter.all false
set_option maxRecDepth 100000
set_option maxHeartbeats 4000000
/-! The promise of a generator def that a list comprehension drains, by its body. -/
namespace Sky
open PySem PySem.Spec PyProof.Rows L2 GenW
def ZEnd (P : Program) (w : World) (outer : List Env) (H : Hp) (s : Shared) (S C : Addr) (Q : List V → Hp → Prop) : GenEnd := fun n s₀ r s1 =>
  (r = .ok (.ret .none) ∨ r = .ok .next) ∧ ∃ H' ys acc c oc, s1.os = s.os ∧ AllBare s1.gens ∧ Un (frs outer) [] H H' s.heap s1.heap ∧ HOk P w H' s1.heap ∧ H' S = none ∧ H' C = none ∧ s₀.heap.get? C = some oc ∧ s1.heap.get? C = some oc ∧
    s1.heap.get? S = some (lstObj acc c) ∧ Vals ys acc.toList ∧ ys.length ≤ sizeLine ∧ Q ys H'
def ZItem (s : Shared) (S C a : Addr) (g : Nat) : Protocol := fun n s₀ v s1 kap =>
  s1.os = s.os ∧ AllBare s1.gens ∧ s1.heap.NoLimit ∧ s1.heap.IsGen a g ∧ (∃ (acc : Array Value) (c : Nat), s1.heap.get? S = some (lstObj acc c) ∧ n + 1 + acc.size = sizeLine) ∧ (∃ oc : Obj, s₀.heap.get? C = some oc ∧ s1.heap.get? C = some oc) ∧ ∀ s', Nap S C v s1 s' → kap (.send .none) s'
def ZMade (P : Program) (w : World) (k : Nat) (outer : List Env) (H : Hp) (s : Shared) (Q : List V → Hp → Prop) (u : Value) (s' : Shared) : Prop :=
  ∃ (a : Addr) (g : Nat) (c : Code), u = .ref a ∧ s.heap.objs.size ≤ a ∧ a < s'.heap.objs.size ∧ s'.heap.IsGen a g ∧ s'.gens[g]? = some (.fresh c) ∧ s'.os = s.os ∧ AllBare s'.gens ∧ s'.heap.NoLimit ∧ (∀ b o, s.heap.get? b = some o → s'.heap.get? b = some o) ∧
    ∀ (A : Around) (S C : Addr) (s2 : Shared), Room k A → A.frames = some outer → s'.heap.objs.size ≤ S → s'.heap.objs.size ≤ C → S ≠ C → (∀ b o, s'.heap.get? b = some o → s2.heap.get? b = some o) → (∃ c, s2.heap.get? S = some (lstObj #[] c)) →
      (∃ oc, s2.heap.get? C = some oc ∧ ∀ v, oc.data ≠ .cell v) → s2.os = s.os → AllBare s2.gens →
      Seg (model P w) A (ZEnd P w outer H s S C Q) (ZItem s S C a g) sizeLine s2 c ((model P w).den c) [] s2
/-- arguments, heap, what is wanted of all that it hands out -/
abbrev SpZ := List V → Hp → (List V → Hp → Prop) → Prop
structure ZFn (P : Program) (w : World) (K : PySem.W.Frag) (mg : Str → Option Value) (base : Heap) (k : Nat) (f : Addr) (fd : FuncData) (ps : List Str) (sp : SpZ) : Prop where
  len : ∀ vs H Q, sp vs H Q → vs.length = ps.length
  run : ∀ (A : Around) (outer : List Env) (s : Shared) (H : Hp) (args : Args) (us : List Value) (vs : List V) (Q : List V → Hp → Prop), Room k A → Env0 P w K mg base A outer s H → BindsTo s fd args (ps.zip us) → Vals vs us → sp vs H Q →
    codeAny (model P w) A (.call (.ref f) args) (fun r s' => match r with | .ok (.ret u) => ZMade P w k outer H s Q u s' | _ => False) s
theorem zfn_of {P : Program} {w : World} {K : PySem.W.Frag} {mg : Str → Option Value} {base : Heap} {k : Nat} {f : Addr} {name qual : Str} {params : Arguments} {body : List Stmt} {scope : Scope} {dV kV doc pm cdv ct oc : Value} {an od : Option Addr}
    {osl : Array (Option Value)} {N ps : List Str} {sp : SpZ} (lk : K.lookup f = some ⟨oc, od, .func (PySem.W.fnOf name qual params body scope dV kV doc pm an cdv ct), osl⟩) (hcd : PySem.W.codeIn K cdv qual = true) (sc0 : GScope N ps scope)
    (len : ∀ vs H Q, sp vs H Q → vs.length = ps.length)
    (hbody : ∀ (A : Around) (outer : List Env) (s : Shared) (H : Hp) (vs : List V) (Q : List V → Hp → Prop) (pn : List (Addr × Obj)), Room k (A.deeper (envOfC qual scope s.heap.objs.size f cdv)) → sp vs H Q →
      ∃ t, GM (gcxOf P w K mg base N qual scope f cdv A outer s H (fun _ _ _ => False) pn) (execs body (envOfC qual scope s.heap.objs.size f cdv)) t ∧ t { nx := fun ys _ H' => ys.length ≤ sizeLine ∧ Q ys H', rt := fun ys v H' => False } [] (start N vs) H) :
    ZFn P w K mg base (k + 1) f (PySem.W.fnOf name qual params body scope dV kV doc pm an cdv ct) ps sp := by
  refine ⟨len, fun A outer s H args us vs Q hr e0 hb r hsp => ?_⟩
  have hl := len _ _ _ hsp
  have kin : K.In s.heap := e0.mod.kin.keeps fun b o e => (e0.bs b o e).1
  have lim : s.heap.NoLimit := e0.mod.nolimit.keeps fun b o e => (e0.bs b o e).1
  refine codeAny_call_generator hr.depth (kin _ _ lk) rfl sc0.co sc0.gen rfl (PySem.W.codeRec_of kin hcd) (hb _ _ _ _ ?_)
  refine wpAny_newFunctionEnv_cells sc0.kind (fun ⟨n, v⟩ hy => ?_) fun env he s1 x => ?_
  · rcases sc0.par n (List.of_mem_zip hy).1 with q | q
    · exact .inl q
    · exact .inr ⟨q, PySem.W.cellsFrom_some _ _ _ (.inl q)⟩
  subst he
  have lim1 : s1.heap.NoLimit := lim.keeps x.toInCall.keep
  refine ⟨lim1, ?_⟩
  obtain ⟨h1, tk, es1, hk1⟩ := x.done
  have os1 : s1.os = s.os := by rw [es1]
  have gen1 : s1.gens = s.gens := by rw [es1]
  have lt1 : s.heap.objs.size < s1.heap.objs.size := x.toInCall.ns.lt
  have sz1 : s.heap.objs.size ≤ s1.heap.objs.size := Nat.le_of_lt lt1
  have main : ∀ (go : Obj) (nm qn : Value) (tk2 : Nat), go.cls = .type "generator" → go.data = .fields #[.int s1.gens.size 0, nm, qn] → go.slots = #[] → (∀ h : Heap, (h.push go).get? h.objs.size = some go) →
      ZMade P w (k + 1) outer H s Q (.ref s1.heap.objs.size) { s1 with gens := s1.gens.push (.fresh (.func body (envOfC qual scope s.heap.objs.size f cdv))), toks := tk2, heap := s1.heap.push go } := by
    intro go nm qn tk2 hgc hgd0 hgs hgp
    have hgen : ∀ h : Heap, h.get? s1.heap.objs.size = some go → h.IsGen s1.heap.objs.size s1.gens.size := fun h e => ⟨go, nm, qn, e, hgc, hgd0, hgs⟩
    have hpushed : (s1.heap.push go).get? s1.heap.objs.size = some go := hgp _
    have ltp : s1.heap.objs.size < (s1.heap.push go).objs.size := by rw [Heap.size_push]; exact Nat.lt_succ_self _
    refine ⟨s1.heap.objs.size, s1.gens.size, _, rfl, sz1, ltp, hgen _ hpushed, Array.getElem?_push_size .., os1, ?_, lim1.keeps fun b o e => Heap.get?_push_of_some _ e, fun b o e => Heap.get?_push_of_some _ (x.toInCall.keep b o e), ?_⟩
    · exact AllBare.push (by rw [gen1]; exact e0.bare) rfl
    intro Aw Sx Cx s2 hrw hfr hSx hCx hSC hk2 hSo hCo hos hba
    have e0w : Env0 P w K mg base Aw outer s H := ⟨hfr, e0.mod, e0.bs, e0.bsz, e0.funs, e0.frf, e0.hok, e0.bare⟩
    obtain ⟨t, ht, hq⟩ := hbody Aw outer s H vs Q [(s1.heap.objs.size, go)] (hrw.deeper _) hsp
    have I1 : Inv (gcxOf P w K mg base N qual scope f cdv Aw outer s H (fun _ _ _ => False) []) [] (start N vs) H s1 := inv_startG sc0 hrw.hd e0w hl r x
    have kp2 : ∀ b o, s1.heap.get? b = some o → s2.heap.get? b = some o := fun b o e => hk2 b o (Heap.get?_push_of_some _ e)
    have I2 : Inv (gcxOf P w K mg base N qual scope f cdv Aw outer s H (fun _ _ _ => False) []) [] (start N vs) H s2 :=
      I1.call' (ch := []) (hos.trans os1.symm) (Un.kept kp2) (I1.hok.kept kp2) hba fun b z => by simp at z
    obtain ⟨cS, heS⟩ := hSo
    obtain ⟨oC, heC, hcC⟩ := hCo
    have hSz : s1.heap.objs.size < Sx := Nat.lt_of_lt_of_le ltp hSx
    have hCz : s1.heap.objs.size < Cx := Nat.lt_of_lt_of_le ltp hCx
    have young : ∀ b, s1.heap.objs.size ≤ b → H b = none ∧ b ≠ s.heap.objs.size ∧ b ∉ frs outer ∧ s.heap.objs.size ≤ b ∧ ∀ y c, (cellsFrom (s.heap.objs.size + 1) scope.names []).lookup y = some c → c ≠ b := fun b hb => by
      refine ⟨I1.hok.fresh hb, Nat.ne_of_gt (Nat.lt_of_lt_of_le lt1 hb), I1.nofs hb, Nat.le_trans sz1 hb, fun y c e z => ?_⟩
      obtain ⟨v, ob, ho, _⟩ := I1.cell y c e
      have q := Heap.lt_size ho
      rw [z] at q
      exact absurd (Nat.lt_of_lt_of_le q hb) (Nat.lt_irrefl _)
    obtain ⟨gn, gL, gf, _, _⟩ := young s1.heap.objs.size (Nat.le_refl _)
    obtain ⟨sn, sL, sf, s0, scl⟩ := young Sx (Nat.le_of_lt hSz)
    obtain ⟨cn, cL, cf, c0, ccl⟩ := young Cx (Nat.le_of_lt hCz)
    have hG : GJ (gcxOf P w K mg base N qual scope f cdv Aw outer s H (fun _ _ _ => False) [(s1.heap.objs.size, go)]) Sx Cx s2 [] (start N vs) H s2 := by
      refine ⟨#[], cS, oC, .nil, heC, Inv.pinnedG I2 fun p hp => ?_⟩
      rcases List.mem_cons.mp hp with z | z
      · rw [z]
        exact ⟨hk2 _ _ hpushed, gn, gL, gf, fun v q => by rw [hgd0] at q; cases q⟩
      rcases List.mem_cons.mp z with z | z
      · rw [z]
        exact ⟨heS, sn, sL, sf, fun v q => by cases q⟩
      · rw [List.mem_singleton.mp z]
        exact ⟨heC, cn, cL, cf, hcC⟩
    have far : Far (gcxOf P w K mg base N qual scope f cdv Aw outer s H (fun _ _ _ => False) [(s1.heap.objs.size, go)]) Sx Cx := by
      refine ⟨hSC, s0, sL, scl, fun p hp => ?_, c0, cL, ccl, fun p hp => ?_⟩
      · rw [List.mem_singleton.mp hp]
        exact Nat.ne_of_lt hSz
      · rw [List.mem_singleton.mp hp]
        exact Nat.ne_of_lt hCz
    refine seg_func ?_
    refine seg_imp (R := ZEnd P w outer H s Sx Cx Q) (Y := GY2 (gcxOf P w K mg base N qual scope f cdv Aw outer s H (fun _ _ _ => False) [(s1.heap.objs.size, go)]) Sx Cx) (fun _ _ _ _ z => z) (fun n z0 v s1' kap kap' hkk hY => ?_) sizeLine ?_
    · obtain ⟨ys, xx, σ', H', hn, h2, hI, h3⟩ := hY
      obtain ⟨acc, cc, oc, ra, e0, J⟩ := hI
      have jS := GJ.pinS J
      have jC := GJ.pinC J
      have jg := (J.pin (s1.heap.objs.size, go) (List.mem_append_left _ (List.mem_singleton.mpr rfl))).1
      have hsz : acc.size = ys.length := by
        have e1 := ra.length
        have e2 : acc.toList.length = acc.size := by simp
        omega
      exact ⟨J.os, J.bare, J.nolimit, hgen _ jg, ⟨acc, cc, jS.1, by rw [hsz]; exact hn⟩, ⟨oc, e0, jC.1⟩, fun s' z => hkk _ _ (h3 s' z)⟩
    · refine ht.run Aw Sx Cx (ZEnd P w outer H s Sx Cx Q) sizeLine [] s2 _ [] _ _ id id s2 (start N vs) H _ ⟨far, over_func, rfl, rfl, rfl⟩ (Nat.add_zero _) (fun n ys z0 s' fl hn hs => ?_) hG hq
      cases fl with
      | next =>
        obtain ⟨σ', H', hI, hle, hQ⟩ := hs
        obtain ⟨acc, cc, oc, ra, e0, J⟩ := hI
        have jS := GJ.pinS J
        have jC := GJ.pinC J
        exact seg_end (.ok (.ret .none)) ⟨.inl rfl, H', ys, acc, cc, oc, J.os, J.bare, J.base, J.hok, jS.2.1, jC.2.1, e0, jC.1, jS.1, ra, hle, hQ⟩
      | brk => obtain ⟨_, _, _, q⟩ := hs; exact False.elim q
      | cont => obtain ⟨_, _, _, q⟩ := hs; exact False.elim q
      | ret u =>
        obtain ⟨σ', H', hI, v, rv, q⟩ := hs
        exact q.elim
  exact main _ _ _ _ rfl rfl rfl fun h => Heap.get?_push_size _ rfl
end Sky

set_option Elab.async false
set_option linter.all false
set_option maxRecDepth 100000
set_option maxHeartbeats 4000000
/-! `[x for x in g(..)]`: the comprehension that drains a generator. -/
namespace Sky
open PySem PySem.Spec PyProof.Rows L2 GenW
section
variable {X : Cx} {k : Nat}
/-- the expression is a generator that sleeps yet -/
structure PZ (X : Cx) (k : Nat) (e : Expr) (tg : TGen) : Prop where
  run : ∀ (pins : List (Addr × Obj)) (s : Shared) (σ : L2.St) (H : Hp) (cont : List V → Hp → Prop), Inv X pins σ H s → tg σ H cont → wpAny (model X.prog X.w) X.A (eval e X.env)
    (fun u s' => ∃ H1 sc, Inv X pins σ H1 sc ∧ ZMade X.prog X.w k X.stack H1 sc cont u s') X.xe s
def tCallZ (sp : SpZ) (t : TA) : TGen := fun σ H cont => t σ H fun vs H1 => sp vs H1 cont
theorem pz_call {f : Addr} {fd : FuncData} {ps : List Str} {sp : SpZ} {x : Str} {p pos : Pos} {e : Expr} {es : List Expr} {t : TA} (F : ZFn X.prog X.w X.K X.mg X.base k f fd ps sp) (hr : Room k X.A) (hg : Gl X x) (hm : X.mg x = some (.ref f)) (hk : PySem.W.keepIn X.K (.ref f) = true) (hb : Binds X.K fd ps [])
    (ha : PA X (e :: es) t) (hdb : (x == ("__debug__" : Str)) = false := by decide) (he : starEach (e :: es) X.env = (false, eval e X.env) :: starEach es X.env := by rfl) (hpl : (backTo pos (starEach es X.env)).any (·.1) = false := by rfl) :
    PZ X k (.Call (.Name x p) (e :: es) [] pos) (tCallZ sp t) := by
  refine ⟨fun pins s σ H cont I h => ?_⟩
  refine wpAny_Call_Name_kw (ld_glob I hg hm ?_ hdb)
  refine PySem.W.callWith_K (h₀ := X.base) I.ok.mod.kin hk (thn (ha.run pos pins s σ H _ I h) fun us s1 ⟨vs, H1, I1, r, q⟩ => ⟨I1.kIn, ?_⟩) he hpl
  have hl2 : us.length = ps.length := by rw [← r.length]; exact F.len _ _ _ q
  refine wpAny_call (codeAny_mono (F.run X.A X.stack s1 H1 ⟨us, []⟩ us vs cont hr I1.env0 (by have z := hb s1 us I1.kIn (by rw [List.append_nil]; exact hl2); rw [List.append_nil] at z; exact z) r q) fun r s' hq => ?_)
  cases r with
  | error e => exact False.elim hq
  | ok fl =>
    cases fl with
    | ret u => exact ⟨H1, s1, I1, hq⟩
    | next => exact False.elim hq
    | brk => exact False.elim hq
    | cont => exact False.elim hq
/-- the comprehension's loop -/
theorem drainC {P : Program} {w : World} {A : Around} {R : Result → Shared → Prop} {outer : List Env} {H : Hp} {sc : Shared} {Q : List V → Hp → Prop} {S a : Addr} {g : Nat} {y : Str} {py py' : Pos} {iter : Expr} {scope : Scope} {pos : Pos} {ce : Env}
    (hh : A.handled = none) (hd : A.depth < recursionLimit) (hSa : S ≠ a) (hSc : S ≠ cStatics) (hCa : ce.locals ≠ a) (hCc : ce.locals ≠ cStatics) (hSC : S ≠ ce.locals)
    (hy : ce.kindOf y = some .local) (hk : ce.scope.kind = .function) (hdb : (y == ("__debug__" : Str)) = false)
    (hend : ∀ s' acc c H' ys m, s'.heap.get? S = some (lstObj acc c) → s'.heap.Ns ce.locals m → Vals ys acc.toList → ys.length ≤ sizeLine → s'.os = sc.os → AllBare s'.gens → Un (frs outer) [] H H' sc.heap s'.heap → HOk P w H' s'.heap → H' S = none → H' ce.locals = none → Q ys H' → R (.ok .next) s')
    (s : Shared) (hg : s.heap.IsGen a g) (hl : s.heap.NoLimit) (hn : ∃ m, s.heap.Ns ce.locals m)
    (hgo : ∃ gs, s.gens[g]? = some gs ∧ gs.Goes (model P w) A.in1 (ZEnd P w outer H sc S ce.locals Q) (ZItem sc S ce.locals a g) sizeLine (.send .none) (s.setGen g .running)) :
    codeAny (model P w) A (.compLoop (.ListComp (.Name y py) [⟨.Name y py', iter, [], 0⟩] scope pos) 0 (.ref a) (.ref S) ce) R s := by
  have goes : ∀ {gs : GenState} {B : Around} {n : Nat} {r : Resume} {s : Shared}, gs.Goes (model P w) B (ZEnd P w outer H sc S ce.locals Q) (ZItem sc S ce.locals a g) n r s →
      gs.Goes (model P w) B (fun n s₀ r s1 => ((r = .ok (.ret .none) ∨ r = .ok .next) ∧ (∃ H' ys acc c oc, s1.os = sc.os ∧ AllBare s1.gens ∧ Un (frs outer) [] H H' sc.heap s1.heap ∧ HOk P w H' s1.heap ∧ H' S = none ∧ H' ce.locals = none ∧ s₀.heap.get? ce.locals = some oc ∧ s1.heap.get? ce.locals = some oc ∧ s1.heap.get? S = some (lstObj acc c) ∧ Vals ys acc.toList ∧ ys.length ≤ sizeLine ∧ Q ys H')) ∨
        ∃ e, r = .error e ∧ (fun _ _ => False : Value → Shared → Prop) e s1) (ZItem sc S ce.locals a g) n r s := fun {gs B n r s} h => by
    cases gs with
    | fresh c => exact ⟨h.1, seg_imp (fun _ _ _ _ z => .inl z) (fun _ _ _ _ _ _ q z => let ⟨a1, a2, a3, a4, a5, a6, a7⟩ := z; ⟨a1, a2, a3, a4, a5, a6, fun s' z => q _ _ (a7 s' z)⟩) _ h.2⟩
    | suspended k0 _ c _ fs _ => exact seg_imp (fun _ _ _ _ z => .inl z) (fun _ _ _ _ _ _ q z => let ⟨a1, a2, a3, a4, a5, a6, a7⟩ := z; ⟨a1, a2, a3, a4, a5, a6, fun s' z => q _ _ (a7 s' z)⟩) _ h
    | running => exact h
    | finished => exact h
  generalize hER : (fun n s₀ r s1 => ((r = .ok (.ret .none) ∨ r = .ok .next) ∧ (∃ H' ys acc c oc, s1.os = sc.os ∧ AllBare s1.gens ∧ Un (frs outer) [] H H' sc.heap s1.heap ∧ HOk P w H' s1.heap ∧ H' S = none ∧ H' ce.locals = none ∧ s₀.heap.get? ce.locals = some oc ∧ s1.heap.get? ce.locals = some oc ∧ s1.heap.get? S = some (lstObj acc c) ∧ Vals ys acc.toList ∧ ys.length ≤ sizeLine ∧ Q ys H')) ∨
        ∃ e, r = .error e ∧ (fun _ _ => False : Value → Shared → Prop) e s1 : GenEnd) = ER at goes
  refine compLoop_any (fun n s' => n ≤ sizeLine ∧ s'.heap.IsGen a g ∧ s'.heap.NoLimit ∧ (∃ m, s'.heap.Ns ce.locals m) ∧ ∃ gs, s'.gens[g]? = some gs ∧ gs.Goes (model P w) A.in1 ER (ZItem sc S ce.locals a g) n (.send .none) (s'.setGen g .running)) ?_ sizeLine
    ⟨Nat.le_refl _, hg, hl, hn, let ⟨gs, h1, h2⟩ := hgo; ⟨gs, h1, goes h2⟩⟩
  rintro n s5 ⟨hle, hg5, hl5, ⟨m5, hn5⟩, gs, hgs, hgo⟩
  subst hER
  have hgl : g < s5.gens.size := (Array.getElem?_eq_some_iff.mp hgs).1
  refine wpAny_gsz (n := g + 1) hgl (next_genG (A := A) hh hl5 hd hg5 hgs hgo (fun v s₁ gs' hbare hv hsz => ?_) (fun s₁ hp h' hk hsz => ?_) fun e s₁ he => he.elim)
  · obtain ⟨os1, hb1, hl1, hg1, ⟨acc, c, hS1, hasz⟩, ⟨oc, hC0, hC1⟩, hkap⟩ := hv
    cases n with
    | zero =>
      exfalso
      refine hkap { s₁ with heap := s₁.heap.update S (Obj.mapSeq (·.push v)) } ?_
      have sl : Slept S v s₁ { s₁ with gens := s₁.gens, heap := s₁.heap.update S (Obj.mapSeq (·.push v)) } := Slept.push hS1 hb1
      refine ⟨sl.os, sl.bare, fun b o h1 _ e => sl.keep b o h1 e, sl.own, oc, sl.keep _ _ (Ne.symm hSC) hC1, fun u hu => ?_⟩
      obtain ⟨oN, ep, es, hoN, hcN, hdN⟩ := hn5
      have z : oN = oc := by
        have z1 : s5.heap.get? ce.locals = some oc := hC0
        rw [hoN] at z1
        exact Option.some.inj z1
      rw [← z, hcN] at hu
      cases hu
    | succ n =>
      have hns1 : (s₁.setGen g gs').heap.Ns ce.locals m5 := hn5.at' fun o e => by
        have z1 : s5.heap.get? ce.locals = some oc := hC0
        rw [z1] at e
        rw [← Option.some.inj e]
        exact hC1
      refine wpAny_pure ?_
      refine wpAny_assign_Name (wpAny_storeName_local hy hns1 (fun h2 hn2 sb2 => ?_) (by rw [hk]; rfl))
      refine wpAny_tests_nil ?_
      rw [if_pos rfl]
      refine wpAny_Name (wpAny_loadName_local hk hy hn2 (if_pos rfl) ?_) hdb
      have hS2 : h2.get? S = some (lstObj acc c) := sb2.extBut S _ hSC hS1
      refine append_at (hsz := by omega) hS2 fun h3 sb3 hS3 => ?_
      have kp : ∀ b o, b ≠ S → b ≠ ce.locals → s₁.heap.get? b = some o → h3.get? b = some o := fun b o h1 h2 e => sb3.extBut b o h1 (sb2.extBut b o h2 e)
      have hsz1 : g < s₁.gens.size := by
        have q : (s₁.setGen g gs').gens.size = s₁.gens.size := setGen_size _ _ _
        have hsz' : g + 1 ≤ (s₁.setGen g gs').gens.size := hsz
        omega
      have hn3 := hn2.sameBut sb3 (Ne.symm hSC)
      refine ⟨n, Nat.lt_succ_self _, by omega, ?_, ?_, ⟨_, hn3⟩, gs', setGen_at hsz1, ?_⟩
      · obtain ⟨o, nm, qn, ho, r⟩ := hg1
        exact ⟨o, nm, qn, kp a o (Ne.symm hSa) (Ne.symm hCa) ho, r⟩
      · obtain ⟨mc, hns, hnn⟩ := hl1
        exact ⟨mc, hns.at' fun o e => kp _ o (Ne.symm hSc) (Ne.symm hCc) e, hnn⟩
      · refine hkap _ ⟨rfl, allBare_setGen (s := s₁.setGen g gs') (allBare_setGen hb1 hbare) rfl, kp, fun acc' c' e => ?_, ?_⟩
        · rw [hS1] at e
          cases e
          exact ⟨_, hS3⟩
        · obtain ⟨oN, ep, es, hoN, hcN, hdN⟩ := hn3
          exact ⟨oN, hoN, fun u hu => by rw [hcN] at hu; cases hu⟩
  · obtain ⟨H', ys, acc, c, oc, os1, hb1, un, hok, hSn, hCn, hC0, hC1, hS1, hv, hyl, hQ⟩ := hp
    have hns1 : h'.Ns ce.locals m5 := hn5.at' fun o e => by
      have z1 : s5.heap.get? ce.locals = some oc := hC0
      rw [z1] at e
      rw [← Option.some.inj e]
      exact hk _ _ hC1
    exact hend _ acc c H' ys m5 (hk _ _ hS1) hns1 hv hyl os1 (allBare_setGen hb1 rfl) (un.trans (Un.kept hk)) (hok.kept hk) hSn hCn hQ
end
end Sky

set_option Elab.async false
set_option linter.all false
set_option maxRecDepth 100000
set_option maxHeartbeats 4000000
/-! `t = [x for x in g(..)]` -/
namespace Sky
open PySem PySem.Spec PyProof.Rows L2 GenW
section
variable {X : Cx} {k : Nat}
theorem lcZ_core {pins : List (Addr × Obj)} {s : Shared} {σ : L2.St} {H : Hp} {Q : VK} {y : Str} {py py' : Pos} {iter : Expr} {scope : Scope} {own : List (Str × Nat)} {pos pos' : Pos} {tg : TGen} {use : Option (Value → Sem Unit)} {Qf : Value → Shared → Prop}
    (hN : X.N.Nodup) (hr : Room (k + 3) X.A) (I : Inv X pins σ H s) (hi : PZ X k iter tg) (ok : BlkOk X.N X.env.scope scope own) (hyl : scope.names.lookup y = some .local) (hdb : (y == ("__debug__" : Str)) = false) (hs : ∀ x, foldedSetIterable iter X.env x = pure x)
    (h : tg σ H fun out H2 => ∀ p, H2 p = none → Q (.ref p) (upd H2 p (.lst out)))
    (hRR : ∀ D C s' m H', Inv X pins σ H' s' → Q (.ref D) H' → s'.heap.Ns C m → FpOk X pins H' C → compPost (model X.prog X.w) X.A X.xe use Qf (.ref D) C (.ok .next) s') :
    wpAny (model X.prog X.w) X.A (comprehension (.ListComp (.Name y py) [⟨.Name y py', iter, [], 0⟩] scope pos) scope X.env pos' (newList []) false (eval iter X.env) use) Qf X.xe s := by
  have hfree : ∀ z ∈ scope.names, z.2 = .free → ∃ c, X.env.cells.lookup z.1 = some c := fun z hz e => by
    rcases ok.free z hz e with q | q
    · exact I.ok.has _ (.inl q)
    · exact I.ok.has _ (.inr q)
  refine wpAny_comprehension_free (use := use) rfl hs (closure_ok hfree) ok.kind (fun z hz e => by rw [ok.uniq z hz, e])
    (thn (hi.run pins s σ H _ I h) fun u s1 ⟨H1, sc, I1, hz⟩ => ?_)
  obtain ⟨a, g, c, rfl, ha1, ha2, hg, hgs, hos, hb, hl, hkp, wake⟩ := hz
  refine wpAny_pyIter_gen hg ?_
  refine wpAny_newObj_type (newEnv_comp ?_) (by show 0 ≤ sizeLine; decide)
  have hsz : sc.heap.objs.size ≤ s1.heap.objs.size := Nat.le_trans ha1 (Nat.le_of_lt ha2)
  have I2 : Inv X pins σ H1 s1 := I1.call' (ch := []) hos (Un.kept hkp) (I1.hok.kept hkp) hb fun b z => by simp at z
  generalize hD : s1.heap.objs.size = D
  generalize hs3 : ({ s1 with heap := s1.heap.push { cls := .type "list", data := .seq ([] : List Value).toArray } } : Shared) = s3
  have h3 : s3.heap = s1.heap.push { cls := .type "list", data := .seq ([] : List Value).toArray } := by rw [← hs3]
  have k3 : ∀ b o, s1.heap.get? b = some o → s3.heap.get? b = some o := fun b o e => by rw [h3]; exact Heap.get?_push_of_some _ e
  have e3 : s3.heap.get? D = some (lstObj #[] 0) := by rw [h3, ← hD]; exact Heap.get?_push_size _ rfl
  have z3 : s3.heap.objs.size = D + 1 := by rw [h3, Heap.size_push, hD]
  have I3 : Inv X pins σ H1 s3 := by
    rw [← hs3]
    exact I2.call' (ch := []) rfl (Un.kept fun b o e => Heap.get?_push_of_some _ e) (I2.hok.kept fun b o e => Heap.get?_push_of_some _ e) hb fun b z => by simp at z
  have I4 := block_start (fp := []) I3 ok hN fun b hb => by simp at hb
  show codeAny _ _ (.compStart (.ListComp (.Name y py) [⟨.Name y py', iter, [], 0⟩] scope pos) 0 (.ref a) (.ref D) (compEnvC scope (cellsFrom (s3.heap.objs.size + 1) scope.names (cloFrom X.env.cells scope.names [])) s3.heap.objs.size X.env)) (compPost (model X.prog X.w) X.A X.xe use Qf (.ref D) s3.heap.objs.size) { s3 with heap := pushCells (s3.heap.push { cls := .type "dict", data := .dict #[] }) scope.names }
  generalize hce : compEnvC scope (cellsFrom (s3.heap.objs.size + 1) scope.names (cloFrom X.env.cells scope.names [])) s3.heap.objs.size X.env = ce at I4 ⊢
  have cL : ce.locals = s3.heap.objs.size := by subst hce; rfl
  generalize hs4 : ({ s3 with heap := pushCells (s3.heap.push { cls := .type "dict", data := .dict #[] }) scope.names } : Shared) = s4 at I4 ⊢
  have k4 : ∀ b o, s3.heap.get? b = some o → s4.heap.get? b = some o := fun b o e => by rw [← hs4]; exact pushCells_keeps _ _ _ _ (Heap.get?_push_of_some _ e)
  have k14 : ∀ b o, s1.heap.get? b = some o → s4.heap.get? b = some o := fun b o e => k4 b o (k3 b o e)
  obtain ⟨m4, hn4, _⟩ := I4.loc
  have hn4 : s4.heap.Ns ce.locals m4 := hn4
  have hcl : cStatics < s1.heap.objs.size := let ⟨_, hn, _⟩ := hl; hn.lt
  have gens4 : s4.gens = s1.gens := by rw [← hs4, ← hs3]
  have os4 : s4.os = sc.os := by rw [← hs4, ← hs3]; exact hos
  have hD1 : D < s3.heap.objs.size := by rw [z3]; exact Nat.lt_succ_self _
  have hSa : D ≠ a := by rw [← hD]; exact Nat.ne_of_gt ha2
  have hCa : s3.heap.objs.size ≠ a := Nat.ne_of_gt (Nat.lt_trans (by rw [← hD]; exact ha2) hD1)
  have loop : codeAny (model X.prog X.w) X.A (.compLoop (.ListComp (.Name y py) [⟨.Name y py', iter, [], 0⟩] scope pos) 0 (.ref a) (.ref D) ce) (compPost (model X.prog X.w) X.A X.xe use Qf (.ref D) s3.heap.objs.size) s4 := by
    refine drainC (Q := fun out H2 => ∀ p, H2 p = none → Q (.ref p) (upd H2 p (.lst out))) (P := X.prog) (w := X.w) (outer := X.stack) (H := H1) (sc := sc) (g := g) hr.hd hr.depth hSa (by rw [← hD]; exact Nat.ne_of_gt hcl) (by rw [cL]; exact hCa) (by rw [cL]; exact Nat.ne_of_gt (Nat.lt_trans (by rw [← hD]; exact hcl) hD1))
      (by rw [cL]; exact Nat.ne_of_lt hD1) (by rw [← hce]; exact lookup_relabel_local hyl) (by rw [← hce]; exact ok.kind) hdb
      (fun s' acc c' H' ys m q0 qm q1 q2 q3 q4 q5 q6 q7 q8 q9 => ?_) s4 (hg.keeps k14) (hl.keeps k14) ⟨_, hn4⟩ ⟨.fresh c, by rw [gens4]; exact hgs, rfl, ?_⟩
    · have I5 : Inv X pins σ (upd H' D (.lst ys)) s' := I1.drained (by rw [← hD]; exact hsz) q2 q0 q1 .nil q3 q4 q5 q6 q7
      rw [cL] at qm q8
      have nC : (upd H' D (.lst ys)) s3.heap.objs.size = none := by
        rw [upd_ne (Nat.ne_of_gt hD1)]
        exact q8
      exact hRR D s3.heap.objs.size s' m _ I5 (q9 D q7) qm (I3.fpOk (Nat.le_refl _) nC)
    · refine wake X.A.in1 D ce.locals _ ⟨hr.hd, ?_, ?_⟩ I.ok.frames (Nat.le_of_eq hD) (by rw [cL, hD]; exact Nat.le_of_lt hD1) (by rw [cL]; exact Nat.ne_of_lt hD1) (fun b o e => k14 b o e) ⟨0, k4 _ _ e3⟩ ?_ os4 (allBare_setGen (by rw [gens4]; exact hb) rfl)
      · have := hr.dp
        show X.A.depth + 3 * k + 5 < _
        omega
      · have := hr.un
        show X.A.units + 1 + 16 * k + 200 < _
        omega
      · obtain ⟨oN, ep, es, hoN, hcN, hdN⟩ := hn4
        exact ⟨oN, hoN, fun u hu => by rw [hcN] at hu; cases hu⟩
  exact codeAny_compStart_list loop (wpAny_pyIter_gen (hg.keeps k14) loop)
def tLcZ (tg : TGen) : TE := fun σ H Q => tg σ H fun out H2 => ∀ p, H2 p = none → Q (.ref p) (upd H2 p (.lst out))
theorem ps_setLcZ {i : Nat} {z y : Str} {pz py py' : Pos} {iter : Expr} {scope : Scope} {own : List (Str × Nat)} {pos spos : Pos} {tg : TGen} (hN : X.N.Nodup) (hr : Room (k + 3) X.A) (hz : X.N[i]? = some z) (hzl : X.env.scope.names.lookup z = some .local)
    (hsw : swapsWith (.ListComp (.Name y py) [⟨.Name y py', iter, [], 0⟩] scope pos) (some (.Name z pz)) spos.line X.env = pure true) (hi : PZ X k iter tg) (ok : BlkOk X.N X.env.scope scope own)
    (hyl : scope.names.lookup y = some .local) (hdb : (y == ("__debug__" : Str)) = false) (hs : ∀ x, foldedSetIterable iter X.env x = pure x := by intro _; rfl) :
    PS X (.Assign [.Name z pz] (.ListComp (.Name y py) [⟨.Name y py', iter, [], 0⟩] scope pos) spos) (tAsg (tLcZ tg) (gName i)) := by
  refine ⟨fun pins s σ H D I h => ?_⟩
  rw [exec_Assign_Name_used _ _ _ _ hsw]
  refine wpAny_bind (wpAny_standAt (wpAny_bind ?_))
  show wpAny _ X.A (do let _ ← comprehension (.ListComp (.Name y py) [⟨.Name y py', iter, [], 0⟩] scope pos) scope X.env (firstIterPos [⟨.Name y py', iter, [], 0⟩] pos) (newList []) false (eval iter X.env) (some (assign (.Name z pz) X.env))) _ _ s
  have h : tLcZ tg σ H (fun x H1 => gName i x σ H1 D.nx) := h
  refine wpAny_bind (thn (lcZ_core (Q := fun x H1 => gName i x σ H1 D.nx) (Qf := fun _ s' => SP X pins D .next s') hN hr I hi ok hyl hdb hs h fun L C s' m H' I' q hn f => ?_) fun _ s' hq => wpAny_pure (wpAny_pure hq))
  show wpAny _ _ (assign (.Name z pz) X.env (.ref L)) _ _ _
  refine wpAny_assign_Name (store_ok2 (v := V.ref L) I' hN hz (.inl hzl) rfl (fun s2 I2 ⟨a, sb, ha⟩ => ?_) (.inr hzl))
  obtain ⟨f0, f1, f2, f3, f4, f5⟩ := f
  have hCa : C ≠ a := by
    rcases ha with e | e
    · rw [e]
      exact f1
    · exact fun e2 => f4 z a e e2.symm
  refine ⟨m, hn.sameBut sb hCa, fun h3 sb3 => ⟨_, H', I2.turned (t' := s2.toks) (fun b o hb e => (sb3.2 b hb).trans e) f0 f1 f3 f4 f5, q⟩⟩
end
end Sky

set_option Elab.async false
set_option linter.all false
set_option maxRecDepth 100000
set_option maxHeartbeats 4000000
/-! The stack of ways, plain; what a generator's promise says, by items; fresh lists. -/
namespace Sky
open PySem PySem.Spec PyProof.Rows L2
/-! ### the stack -/
def nx (t : Tr) (p : Place) : List Place := (nextB t p).filter (good t)
/-- a way: what is before its last, its last -/
abbrev Bw : Type := List Place × Place
def full (w : Bw) : List Place := w.1 ++ [w.2]
def outW (t : Tr) (w : Bw) : List (List Place) := (wyF t w.2).map (w.1 ++ ·)
def outS (t : Tr) (st : List Bw) : List (List Place) := st.reverse.flatMap (outW t)
def pushW (t : Tr) (w : Bw) : List Bw := (nx t w.2).reverse.map fun o => (full w, o)
theorem outS_app (t : Tr) (a b : List Bw) : outS t (a ++ b) = outS t b ++ outS t a := by
  unfold outS
  rw [List.reverse_append, List.flatMap_append]
theorem outS_one (t : Tr) (w : Bw) : outS t [w] = outW t w := by
  unfold outS
  rw [List.reverse_singleton, List.flatMap_cons, List.flatMap_nil, List.append_nil]
theorem nx_lt {t : Tr} {p : Place} (m : May t p) (h : nx t p ≠ []) : p.1 < t.l := by
  have := m.hi
  by_cases e : p.1 = t.l
  · exact absurd (by unfold nx; rw [next_last e]; rfl) h
  · omega
theorem outW_step {t : Tr} (ok : TrOk t) {w : Bw} (m : May t w.2) (h : nx t w.2 ≠ []) : outW t w = outS t (pushW t w) := by
  unfold outW outS pushW
  rw [wy_good ok m (nx_lt m h), ← List.map_reverse, List.reverse_reverse]
  show ((nx t w.2).flatMap _).map _ = ((nx t w.2).map _).flatMap _
  generalize nx t w.2 = l
  induction l with
  | nil => rfl
  | cons o l ih =>
    rw [List.flatMap_cons, List.map_append, ih, List.map_cons, List.flatMap_cons]
    congr 1
    unfold outW full
    rw [List.map_map]
    apply List.map_congr_left
    intro a _
    show w.1 ++ (w.2 :: a) = (w.1 ++ [w.2]) ++ a
    rw [List.append_assoc]
    rfl
theorem outW_end {t : Tr} (ok : TrOk t) {w : Bw} (m : May t w.2) (g : good t w.2 = true) (h : nx t w.2 = []) : outW t w = [full w] := by
  have e := good_end ok m g h
  have hl : w.2.1 = t.l := by rw [e]; rfl
  unfold outW
  rw [wy_last hl, if_pos e]
  rfl
def szN (t : Tr) : Nat → Place → Nat
  | 0, _ => 1
  | n + 1, p => 1 + ((nx t p).map (szN t n)).sum
def sz (t : Tr) (p : Place) : Nat := szN t (fuel t p) p
theorem sum_congr {α : Type} {l : List α} {f g : α → Nat} (h : ∀ a ∈ l, f a = g a) : (l.map f).sum = (l.map g).sum := by
  rw [List.map_congr_left h]
theorem sz_step {t : Tr} (ok : TrOk t) {p : Place} (m : May t p) : sz t p = 1 + ((nx t p).map (sz t)).sum := by
  by_cases h : nx t p = []
  · rw [h]
    unfold sz
    cases fuel t p with
    | zero => rfl
    | succ n =>
      show 1 + ((nx t p).map (szN t n)).sum = _
      rw [h]
      rfl
  · have hl := nx_lt m h
    have e : fuel t p = (t.l - (p.1 + 1)).toNat + 1 := by
      unfold fuel
      omega
    show szN t (fuel t p) p = _
    rw [e]
    show 1 + ((nx t p).map (szN t _)).sum = _
    congr 1
    refine sum_congr fun o ho => ?_
    have := (may_next ok m (List.mem_filter.mp ho).1).2
    unfold sz fuel
    rw [this]
theorem sz_pos (t : Tr) (p : Place) : 1 ≤ sz t p := by
  unfold sz
  cases fuel t p with
  | zero => exact Nat.le_refl _
  | succ n =>
    show 1 ≤ 1 + _
    omega
theorem sum_le {α : Type} {f : α → Nat} {c : Nat} (h : ∀ a, f a ≤ c) : ∀ l : List α, (l.map f).sum ≤ l.length * c
  | [] => by simp
  | a :: l => by
    have := h a
    have := sum_le h l
    rw [List.map_cons, List.sum_cons, List.length_cons, Nat.succ_mul]
    omega
theorem szN_le (t : Tr) : ∀ (n : Nat) (p : Place), szN t n p ≤ 6 ^ n
  | 0, _ => Nat.le_refl _
  | n + 1, p => by
    have h1 := sum_le (szN_le t n) (nx t p)
    have h2 : (nx t p).length ≤ 5 := Nat.le_trans (List.length_filter_le _ _) (nextB_len t p)
    have h3 : (nx t p).length * 6 ^ n ≤ 5 * 6 ^ n := Nat.mul_le_mul_right _ h2
    have h4 : 1 ≤ 6 ^ n := Nat.one_le_pow _ _ (by decide)
    show 1 + _ ≤ _
    rw [Nat.pow_succ]
    omega
theorem fuel_le {t : Tr} (ok : TrOk t) {p : Place} (m : May t p) : fuel t p ≤ 3 := by
  have := steps_le ok
  have := m.lo
  unfold steps at *
  unfold fuel
  omega
theorem sz_le {t : Tr} (ok : TrOk t) {p : Place} (m : May t p) : sz t p ≤ 216 :=
  Nat.le_trans (szN_le t _ p) (Nat.le_trans (Nat.pow_le_pow_right (by decide) (fuel_le ok m)) (by decide))
def szS (t : Tr) (st : List Bw) : Nat := (st.map fun w => sz t w.2).sum
theorem szS_app (t : Tr) (a b : List Bw) : szS t (a ++ b) = szS t a + szS t b := by
  unfold szS
  rw [List.map_append, List.sum_append]
theorem szS_push {t : Tr} (ok : TrOk t) {w : Bw} (m : May t w.2) : 1 + szS t (pushW t w) = sz t w.2 := by
  rw [sz_step ok m]
  unfold szS pushW
  rw [List.map_map, List.map_reverse, List.sum_reverse]
  rfl
theorem szS_len (t : Tr) : ∀ st : List Bw, st.length ≤ szS t st
  | [] => Nat.le_refl _
  | w :: st => by
    have := szS_len t st
    have := sz_pos t w.2
    show st.length + 1 ≤ sz t w.2 + szS t st
    omega
structure WOk (t : Tr) (w : Bw) : Prop where
  may : May t w.2
  good : good t w.2 = true
  mem : (w.2, nx t w.2) ∈ wayM t
  len : w.1.length + fuel t w.2 ≤ 3
theorem wok_push {t : Tr} (ok : TrOk t) {w : Bw} (h : WOk t w) : ∀ v ∈ pushW t w, WOk t v := fun v hv => by
  obtain ⟨o, ho, rfl⟩ := List.mem_map.mp hv
  have ho : o ∈ nx t w.2 := List.mem_reverse.mp ho
  have h1 := List.mem_filter.mp ho
  obtain ⟨m, e⟩ := may_next ok h.may h1.1
  refine ⟨m, h1.2, way_next ok h.mem ho, ?_⟩
  have := h.len
  have hl := nx_lt h.may (List.ne_nil_of_mem ho)
  show (w.1 ++ [w.2]).length + fuel t o ≤ 3
  rw [List.length_append, List.length_singleton]
  unfold fuel at *
  have := m.hi
  rw [e] at *
  omega
theorem wok_start {t : Tr} (ok : TrOk t) (hb : startP t ∉ banL t) (hg : good t (startP t) = true) : WOk t ([], startP t) := by
  have m := may_start ok hb
  refine ⟨m, hg, ?_, ?_⟩
  · rw [wayM_eq ok]
    refine List.mem_filterMap.mpr ⟨_, start_reach hb, ?_⟩
    unfold gM
    rw [if_pos hg]
    rfl
  · have := fuel_le ok m
    show 0 + fuel t (startP t) ≤ 3
    omega
/-- all the ways, in order -/
def allW (t : Tr) : List (List Place) := if startP t ∈ banL t then [] else wyF t (startP t)
theorem allW_nil {t : Tr} (ok : TrOk t) (h : (wayM t).isEmpty = true) : allW t = [] := by
  unfold allW
  split
  · rfl
  · rename_i hb
    rw [wayM_nil ok, decide_eq_false hb, Bool.false_or] at h
    have h0 : good t (startP t) ≠ true := by simpa using h
    exact Classical.byContradiction fun z => h0 (good_iff.mpr z)
theorem allW_start {t : Tr} (hb : startP t ∉ banL t) : outS t [([], startP t)] = allW t := by
  rw [outS_one]
  unfold outW allW
  rw [if_neg hb]
  exact List.map_id' _
theorem many_allW (t : Tr) : manyW t = (allW t).length := by
  unfold manyW allW
  split
  · rfl
  · rfl

/-! ### fresh lists -/
section
variable {K : PySem.W.Frag} {σ : L2.St} {H B : Hp} {te : TE} {tr : TA} {ds es : List PyData} {d : PyData}
theorem lst_raw (h : EvA tr σ B (ds.map dt)) (hl : ds.length ≤ 100000) (s : Same B H) {Q : VK} (q : ∀ p vs B1 H1, Grow B H B1 H1 → H1 p = none → RpA B1 vs ds → Q (.ref p) (upd H1 p (.lst vs))) : tLst tr σ H Q :=
  h H s _ fun vs B1 H1 g p => ⟨by
    rw [p.data.length]
    exact Nat.le_trans hl (by decide), fun a ha => q a vs B1 H1 g ha p.data⟩
/-- a list that nobody knew -/
theorem lst_new (h : EvA tr σ B (ds.map dt)) (hl : ds.length ≤ 100000) (s : Same B H) {Q : VK} (q : ∀ p B1 H1, Grow B H B1 H1 → Rp B1 (.ref p) (.list ds) → H p = none → (∃ xs, H1 p = some (.lst xs)) → Q (.ref p) H1) : tLst tr σ H Q :=
  lst_raw h hl s fun p vs B1 H1 g hp r => q p _ _ (g.trans (Grow.alloc g.sub hp)) (.lst upd_same (r.mono (Sd.of (same_new (g.sub.free hp))))) (g.top.free hp) ⟨vs, upd_same⟩
theorem rpa_snoc {H : Hp} {vs : List V} (r : RpA H vs (ds ++ [d])) : ∃ ws v, vs = ws ++ [v] ∧ RpA H ws ds ∧ Rp H v d := by
  have hl := r.length
  rw [List.length_append, List.length_singleton] at hl
  have hd : (ds ++ [d])[ds.length]? = some d := by simp
  obtain ⟨v, hv, rv⟩ := r.get hd
  have ht := r.take ds.length
  rw [List.take_left] at ht
  refine ⟨vs.take ds.length, v, ?_, ht, rv⟩
  have e : ds.length < vs.length := by omega
  rw [List.getElem?_eq_getElem e] at hv
  rw [← Option.some.inj hv, ← List.take_succ_eq_append_getElem e, List.take_of_length_le (by omega)]
theorem atI_last {α : Type} (l : List α) (x : α) : atI (l ++ [x]) (-1) = some x := by
  unfold atI ixN
  rw [List.length_append, List.length_singleton, if_neg (by omega), if_pos (by omega)]
  have : ((-1 : Int) + ((l.length + 1 : Nat) : Int)).toNat = l.length := by omega
  show (l ++ [x])[((-1 : Int) + ((l.length + 1 : Nat) : Int)).toNat]? = _
  rw [this]
  simp
/-- nobody knew these -/
def FrN (H : Hp) (vs : List V) : Prop := (∀ v ∈ vs, ∃ a, v = V.ref a ∧ H a = none) ∧ vs.Nodup
end

/-! ### a generator's promise by items -/
def SpZ0 {α : Type} (args : α → List Item) (pre : α → Prop) (res : α → List PyData) : SpZ := fun vs H Q => ∃ (x : α) (B : Hp), pre x ∧ Same B H ∧ ItA B vs (args x) ∧ ∀ ys B1 H1, Grow B H B1 H1 → RpA B1 ys (res x) → FrN H ys → Q ys H1
theorem SpZ0.len {α : Type} {args : α → List Item} {pre : α → Prop} {res : α → List PyData} {n : Nat} (h : ∀ x, (args x).length = n) : ∀ vs H Q, SpZ0 args pre res vs H Q → vs.length = n := fun vs H Q ⟨x, B, _, _, a, _⟩ => by
  rw [a.length]
  exact h x
structure ZCal (P : Program) (w : World) (K : PySem.W.Frag) (mg : Str → Option Value) (base : Heap) (k : Nat) (x : Str) (sp : SpZ) : Prop where
  ex : ∃ (f : Addr) (fd : FuncData) (ps : List Str), ZFn P w K mg base k f fd ps sp ∧ mg x = some (.ref f) ∧ PySem.W.keepIn K (.ref f) = true ∧ Binds K fd ps []
def gscB (N P : List Str) (sc : Scope) : Bool :=
  decide (sc.kind = .function) && (!sc.isCoroutine && (sc.isGenerator && (decide N.Nodup && (decide (N.take P.length = P) && (P.all (fun x => decide (sc.names.lookup x = some .local) || decide (sc.names.lookup x = some .cell)) && sc.names.all (fun y => !decide (y.2 = .free)))))))
theorem gscope_by {N P : List Str} {sc : Scope} (h : gscB N P sc = true) : GScope N P sc := by
  unfold gscB at h
  simp only [Bool.and_eq_true, Bool.not_eq_true', decide_eq_true_eq, List.all_eq_true, Bool.or_eq_true, decide_eq_false_iff_not] at h
  obtain ⟨h1, h2, h3, h4, h5, h6, h7⟩ := h
  exact ⟨h1, h2, h3, h4, h5, h6, h7⟩
section
variable {P : Program} {w : World} {K : PySem.W.Frag} {mg : Str → Option Value} {base : Heap}
theorem Dfn.zcal {x : Str} {st : Stmt} {ps N : List Str} {k : Nat} {sp : SpZ} (F : Dfn K mg x st ps) (S : GScope N ps (defScope st)) (len : ∀ vs H Q, sp vs H Q → vs.length = ps.length)
    (hbody : ∀ (f : Addr) (cdv : Value) (A : Around) (outer : List Env) (s : Shared) (H : Hp) (vs : List V) (Q : List V → Hp → Prop) (pn : List (Addr × Obj)), Room k (A.deeper (envOfC x (defScope st) s.heap.objs.size f cdv)) → sp vs H Q →
      ∃ t, GM (gcxOf P w K mg base N x (defScope st) f cdv A outer s H (fun _ _ _ => False) pn) (execs (defBody st) (envOfC x (defScope st) s.heap.objs.size f cdv)) t ∧ t { nx := fun ys _ H' => ys.length ≤ sizeLine ∧ Q ys H', rt := fun _ _ _ => False } [] (start N vs) H) : ZCal P w K mg base (k + 1) x sp := by
  obtain ⟨f, oc, od, kV, doc, pm, an, cdv, ct, osl, h1, h2, h3, h4, h5⟩ := F.ex
  exact ⟨f, _, ps, zfn_of h2 h3 S len fun A outer s H vs Q pn hr hsp => hbody f cdv A outer s H vs Q pn hr hsp, h1, h4, h5⟩
end
end Sky

set_option Elab.async false
set_option linter.all false
set_option maxRecDepth 100000
set_option maxHeartbeats 4000000
/-! ways. -/
namespace Sky
open PySem PySem.Spec PyProof.Rows L2
section
variable {K : PySem.W.Frag} {σ : L2.St} {H B : Hp} {te : TE} {I : Item} {D : GEnds} {ys : List V} {u t1 t2 : TGn} {tc : TT} {b : Bool}
theorem g_set {i : Nat} (h : Ev te σ B I) (s : Same B H) (k : ∀ v B1 H1, Grow B H B1 H1 → I.P v B1 → u D ys (σ.set i (some v)) H1) : tGThen (tPlain (tAsg te (gName i))) u D ys σ H := h H s _ k
theorem g_if {t : TGn} (h : EvT tc σ B b) (s : Same B H) (h1 : b = true → ∀ B1 H1, Grow B H B1 H1 → tGThen t1 t D ys σ H1) (h2 : b = false → ∀ B1 H1, Grow B H B1 H1 → tGThen t2 t D ys σ H1) : tGThen (tGIf tc t1 t2) t D ys σ H := h H s _ fun B1 H1 g => by
  cases b with
  | true =>
    rw [if_pos rfl]
    exact h1 rfl B1 H1 g
  | false =>
    rw [if_neg Bool.false_ne_true]
    exact h2 rfl B1 H1 g
theorem g_setIf {ta tb : TE} {i : Nat} (h : EvT tc σ B b) (s : Same B H) (h1 : b = true → ∀ B1 H1, Grow B H B1 H1 → ta σ H1 fun v H2 => u D ys (σ.set i (some v)) H2) (h2 : b = false → ∀ B1 H1, Grow B H B1 H1 → tb σ H1 fun v H2 => u D ys (σ.set i (some v)) H2) :
    tGThen (tPlain (tAsg (tIf tc ta tb) (gName i))) u D ys σ H := h H s _ fun B1 H1 g => by
  cases b with
  | true =>
    rw [if_pos rfl]
    exact h1 rfl B1 H1 g
  | false =>
    rw [if_neg Bool.false_ne_true]
    exact h2 rfl B1 H1 g
theorem g_while {tb : TGn} (W : Nat → List V → L2.St → Hp → Prop) (m0 : Nat) (h0 : W m0 ys σ H)
    (turn : ∀ m ys σ1 H1, W m ys σ1 H1 → ∃ b, (∀ Q : Bool → Hp → Prop, Q b H1 → tc σ1 H1 Q) ∧
      (b = true → tb { D with nx := fun ys' σ' H' => ∃ m', m' < m ∧ W m' ys' σ' H', ct := fun ys' σ' H' => ∃ m', m' < m ∧ W m' ys' σ' H', bk := D.nx } ys σ1 H1) ∧ (b = false → D.nx ys σ1 H1)) : tGWhile tc tb D ys σ H := by
  refine ⟨W, ⟨m0, h0⟩, fun m ys σ1 H1 w => ?_⟩
  obtain ⟨b, h1, h2, h3⟩ := turn m ys σ1 H1 w
  refine h1 _ ?_
  cases b with
  | true =>
    rw [if_pos rfl]
    exact ⟨_, fun _ _ _ z => z, h2 rfl⟩
  | false =>
    rw [if_neg Bool.false_ne_true]
    exact h3 rfl
theorem lst1_raw {Q : VK} (h : te σ H fun v H1 => [v].length ≤ sizeLine ∧ ∀ p, H1 p = none → Q (.ref p) (upd H1 p (.lst [v]))) : tLst (tCons te tNil) σ H Q := h
theorem push_get {t : Tr} {w : Bw} {i : Nat} (h : i < (nx t w.2).reverse.length) (h2 : i < (pushW t w).length) : (pushW t w)[i]'h2 = (full w, (nx t w.2).reverse[i]) := List.getElem_map (fun o => (full w, o))
/-- the list that is walked by the stack -/
structure Stk (t : Tr) (B1 H1 : Hp) (tv : V) (am D : Addr) (tot : List (List Place)) (m : Nat) (ys : List V) (σ : L2.St) (B' H' : Hp) (st : List Bw) (done : List (List Place)) (vs : List V) : Prop where
  gr : Grow B1 H1 B' H'
  bD : B' D = none
  hD : H' D = some (.lst vs)
  rv : RpA B' vs (st.map fun w => dPs (full w))
  ry : RpA B' ys (done.map dPs)
  fr : FrN H1 (vs ++ ys)
  ok : ∀ w ∈ st, WOk t w
  tot : done ++ outS t st = tot
  len : szS t st + ys.length ≤ m
theorem rpa_nomem {p : Addr} : ∀ {vs : List V} {ds : List PyData}, RpA B vs ds → B p = none → (V.ref p) ∉ vs ∨ ∃ d ∈ ds, ∀ l, d ≠ .list l
  | _, _, .nil, _ => .inl (by simp)
  | v :: vs, d :: ds, .cons r t, h => by
    rcases rpa_nomem t h with z | ⟨e, h1, h2⟩
    · by_cases q : v = V.ref p
      · subst q
        by_cases hd : ∃ l, d = .list l
        · obtain ⟨l, rfl⟩ := hd
          obtain ⟨a, xs, e1, e2, _⟩ := Rp.lst_eq r
          cases e1
          rw [h] at e2
          cases e2
        · exact .inr ⟨d, List.mem_cons_self .., fun l e => hd ⟨l, e⟩⟩
      · exact .inl fun hm => (List.mem_cons.mp hm).elim (fun e => q e.symm) z
    · exact .inr ⟨e, List.mem_cons_of_mem _ h1, h2⟩
theorem fr_notin {p : Addr} {vs : List V} {ws : List (List Place)} (r : RpA B vs (ws.map dPs)) (h : B p = none) : V.ref p ∉ vs := by
  rcases rpa_nomem r h with z | ⟨d, h1, h2⟩
  · exact z
  · obtain ⟨l, _, rfl⟩ := List.mem_map.mp h1
    exact absurd rfl (h2 (l.map dP))
end
section
variable {P : Program} {w : World} {K : PySem.W.Frag} {mg : Str → Option Value} {base : Heap} {W : Wd}
abbrev tbFor (K : PySem.W.Frag) : TS := tFor (iRev K (tCons (tCB (rLs K) (tCons (tVar 4) tNil)) tNil)) (gName 5) (tDrop (tBM K "list" rAppend (tVar 2) (tCons (tLst (StX.tStar K (tVar 3) (tCons (tVar 5) tNil))) tNil)))
abbrev tbTr (K : PySem.W.Frag) (i : Nat) : TT := fun σ H Q => tVar i σ H fun x H' => ∃ k, TruV K x H' k ∧ Q k H'
abbrev tbWays (K : PySem.W.Frag) : TGn := tGThen (tPlain (tAsg (tBM0 K "list" rPop (tVar 2)) (gName 3))) (tGThen (tPlain (tAsg (tDGet (tVar 1) (tOp (rIxL K) (tVar 3) (tUn (rU fun i => .int (-i)) (tC (.int 1))))) (gName 4)))
  (tGThen (tGIf (tNot (tbTr K 4)) (tGThen (tGYield (tVar 3)) tG0) tG0) (tGThen (tPlain (tbFor K)) tG0)))
abbrev spWays (W : Wd) : SpZ := SpZ0 (fun t : Tr => [trI W t]) TrOk fun t => (allW t).map dPs
theorem sc_ways : GScope ["trip", "moves", "waiting", "way", "following", "other"] ["trip"] (defScope s_ways) := gscope_by (by decide +kernel)
theorem ok_ways (T : Bt mg) (Z : Kc K mg W) (cstart_place : C8.Cal P w K mg base 1 "start_place" (spStart W) []) (cway_moves : C8.Cal P w K mg base 9 "way_moves" (spWayM W) []) (F : Dfn K mg "ways" s_ways ["trip"]) : ZCal P w K mg base 10 "ways" (spWays W) := by
  have sc := sc_ways
  refine F.zcal sc (SpZ0.len fun _ => rfl) fun f cdv A outer s H vs Q pn hr hsp => ?_
  refine ⟨_, (gm_cons (gm_ps (ps_set (i := 1) sc.nd rfl (by first | exact Or.inl rfl | exact Or.inr rfl) (C8.pe_c cway_moves hr (by decide) (by rfl) (pa_cons (pv 0) pa_nil))))
    (gm_cons (gm_ps (ps_set (i := 2) sc.nd rfl (by first | exact Or.inl rfl | exact Or.inr rfl) (pe_ifExp (pt_trT (pv 1)) (pe_lst (pa_cons (pe_lst (pa_cons (C8.pe_c cstart_place hr (by decide) (by rfl) (pa_cons (pv 0) pa_nil)) pa_nil)) pa_nil)) (pe_lst pa_nil))))
    (gm_cons (gm_while (pt_truth (pv 2) (by intro _; rfl))
      (gm_cons (gm_ps (ps_set (i := 3) sc.nd rfl (by first | exact Or.inl rfl | exact Or.inr rfl) (pe_bm0 PySem.F.plainAttrs_list PySem.F.slot_list_pop PySem.F.type_list_pop mt_pop (pv 2))))
      (gm_cons (gm_ps (ps_set (i := 4) sc.nd rfl (by first | exact Or.inl rfl | exact Or.inr rfl) (pe_dget (hu_of hr) (pv 1) (pe_ix ix_list (pv 3) (pe_un un_neg pe_int) (fun _ _ => rfl)) (fun _ _ => rfl))))
      (gm_cons (gm_if (pt_not (pt_truth (pv 4) (by intro _; rfl))) (gm_cons (gm_yield (pv 3) rfl rfl)
        gm_nil) gm_nil)
      (gm_cons (gm_ps (ps_for PassesOwn.never rfl (pi_reversed (by rfl) T.n_reversed (pa_cons (pe_callTy call_list_of (by rfl) T.n_list bb_list (pa_cons (pv 4) pa_nil)) pa_nil)) (pg_name (i := 5) sc.nd rfl (by first | exact Or.inl rfl | exact Or.inr rfl))
        (pss_one (ps_expr (pe_bm PySem.F.plainAttrs_list PySem.F.slot_list_append PySem.F.type_list_append mt_append (pv 2) (pa_cons (pe_lst (StX.pa_star (pv 3) (pa_cons (pv 5) pa_nil))) pa_nil))))))
      gm_nil)))))
    gm_nil))), ?_⟩
  obtain ⟨t, B, hp, s0, ha, q⟩ := hsp
  dsimp only at hp ha q
  obtain ⟨v1, rfl, h1⟩ := ita1 ha
  have ok : TrOk t := hp
  refine g_set (ev_call t (ea1 (ev_var h1)) ok) s0 fun vm B1 H1 g1 p1 => ?_
  obtain ⟨⟨am, mvs⟩, _, ⟨rfl, em⟩, mv⟩ := p1
  dsimp only at em mv
  have mv : Mv B1 mvs (wayM t) := mv
  have hmt : (!mvs.isEmpty) = !(wayM t).isEmpty := by
    have := mv.len
    cases mvs <;> cases hw : wayM t <;> simp_all
  have nd := nodup_wayM ok
  -- the loop, from a stack
  have loop : ∀ (D : Addr) (B2 H2 : Hp) (st : List Bw) (vs : List V), Grow B1 H1 B2 H2 → B2 D = none → H1 D = none → H2 D = some (.lst vs) → RpA B2 vs (st.map fun w => dPs (full w)) → FrN H1 vs → (∀ w ∈ st, WOk t w) → outS t st = allW t → szS t st ≤ 216 →
      tGWhile (tbTr K 2) (tbWays K) { nx := fun ys σ H' => tG0 { nx := fun ys _ H' => ys.length ≤ sizeLine ∧ Q ys H', rt := fun _ _ _ => False } ys σ H', rt := fun _ _ _ => False } [] [some v1, some (.ref am), some (.ref D), none, none, none] H2 := ?_
  · have hT : EvT (tTrT (tVar 1)) [some v1, some (.ref am), none, none, none, none] B1 (!(wayM t).isEmpty) := (et_trT (ev_var (I := dtI am mvs) ⟨rfl, em⟩)).is hmt
    refine g_setIf hT g1.sub (fun hw B2 H2 g2 => ?_) fun hw B2 H2 g2 => ?_
    rotate_left
    · have hw : (wayM t).isEmpty = true := by simpa using hw
      refine ⟨Nat.zero_le _, fun D hD => ?_⟩
      refine loop D B2 _ [] [] (g2.put (g2.top.free hD) (g2.sub.free hD)) (g2.sub.free hD) (g2.top.free hD) upd_same .nil ⟨(fun v h => nomatch h), List.nodup_nil⟩ (fun w h => nomatch h) ?_ (Nat.zero_le _)
      rw [allW_nil ok hw]
      rfl
    · have hw : (wayM t).isEmpty = false := by simpa using hw
      rw [wayM_nil ok, Bool.or_eq_false_iff] at hw
      have hb : startP t ∉ banL t := of_decide_eq_false hw.1
      have hg : good t (startP t) = true := by simpa using hw.2
      have g12 := g1.trans g2
      refine lst1_raw (lst_new (ds := [dP (startP t)]) (ea1 (ev_call t (ea1 (ev_var ((trI W t).mono g12.base h1))) trivial)) (by show 1 ≤ 100000; decide) g2.sub fun p B3 H3 g3 r3 hp3 _ => ⟨by show 1 ≤ sizeLine; decide, fun D hD => ?_⟩)
      have g23 := g2.trans g3
      refine loop D B3 _ [([], startP t)] [.ref p] (g23.put (g23.top.free hD) (g23.sub.free hD)) (g23.sub.free hD) (g23.top.free hD) upd_same (.one r3) ⟨fun v h => ?_, List.nodup_cons.mpr ⟨by simp, List.nodup_nil⟩⟩ (fun w h => ?_) (allW_start hb) ?_
      · rw [List.mem_singleton.mp h]
        exact ⟨p, rfl, g2.top.free hp3⟩
      · rw [List.mem_singleton.mp h]
        exact wok_start ok hb hg
      · have := sz_le ok (may_start ok hb)
        show sz t (startP t) + 0 ≤ 216
        omega
  intro D B2 H2 st vs g2 bD hD1 hD rv fr wok hout hsz
  refine g_while (fun m ys σ H' => m + ys.length ≤ 216 ∧ ∃ B' st done vs, (∃ a b c, σ = [some v1, some (.ref am), some (.ref D), a, b, c]) ∧ szS t st = m ∧ Stk t B1 H1 v1 am D (allW t) 216 ys σ B' H' st done vs)
    (szS t st) ⟨hsz, B2, st, [], vs, ⟨_, _, _, rfl⟩, rfl, ⟨g2, bD, hD, rv, .nil, by rw [List.append_nil]; exact fr, wok, by rw [List.nil_append]; exact hout, hsz⟩⟩ ?_
  clear hsz hout wok fr rv hD bD g2 vs st B2 H2
  rintro m ys σ H2 ⟨hm, B2, st, done, vs, ⟨a, b, c, rfl⟩, rfl, S⟩
  refine ⟨!(st.map fun w => dPs (full w)).isEmpty, fun R hR => ⟨.ref D, rfl, _, tru_lst (.ref D) (upd B2 D (.lst vs)) H2 (sub_commit S.gr.sub S.hD) (.lst upd_same (S.rv.mono (Sd.of (same_new S.bD)))), hR⟩, ?_, ?_⟩
  rotate_left
  · intro hst
    have hst : st = [] := by
      cases st with
      | nil => rfl
      | cons a l => cases hst
    subst hst
    have htot := S.tot
    rw [show outS t [] = [] from rfl, List.append_nil] at htot
    refine ⟨by have := S.len; exact Nat.le_trans (by omega : _ ≤ 216) (by decide), q ys B2 H2 (g1.trans S.gr) ?_ ⟨fun v h => ?_, ?_⟩⟩
    · rw [← htot]
      exact S.ry
    · obtain ⟨a, e1, e2⟩ := S.fr.1 v (List.mem_append_right _ h)
      exact ⟨a, e1, g1.top.free e2⟩
    · exact (List.nodup_append.mp S.fr.2).2.1
  · intro hst
    have hcase : ∃ st' w, st = st' ++ [w] := by
      rcases List.eq_nil_or_concat st with h | ⟨a, b, h⟩
      · rw [h] at hst
        cases hst
      · exact ⟨a, b, by rw [h, List.concat_eq_append]⟩
    obtain ⟨st', wy, rfl⟩ := hcase
    have hrv := S.rv
    rw [List.map_append] at hrv
    obtain ⟨ws, v, rfl, rws, rw1⟩ := rpa_snoc (ds := st'.map fun w => dPs (full w)) (d := dPs (full wy)) hrv
    have wo : WOk t wy := S.ok wy (by simp)
    have wst : ∀ w ∈ st', WOk t w := fun w h => S.ok w (List.mem_append_left _ h)
    have hszs : szS t (st' ++ [wy]) = szS t st' + (1 + szS t (pushW t wy)) := by
      rw [szS_app, szS_push ok wo.may]
      rfl
    refine ⟨.ref D, rfl, .inl ⟨rfl, _, SqL.of S.hD⟩, D, ws ++ [v], v, rfl, rfl, S.hD, by simp, ?_⟩
    rw [List.dropLast_concat]
    have bD1 : B1 D = none := S.gr.base.free S.bD
    have g2 : Grow B1 H1 B2 (upd H2 D (.lst ws)) := S.gr.put hD1 S.bD
    -- following
    have em2 := S.gr.base _ _ em
    have hv : ∃ u, valV mvs (kP wy.2) = some u ∧ Rp B1 u (dPs (nx t wy.2)) := by
      have hlk : lk (wayM t) wy.2 = some (nx t wy.2) := lk_mem nd wo.mem
      have := Mv.get mv wy.2
      rw [hlk] at this
      exact this
    obtain ⟨u, hu, ru⟩ := hv
    have rw1' : Rp B2 v (.list (wy.1.map dP ++ [dP wy.2])) := by
      have e : dPs (full wy) = .list (wy.1.map dP ++ [dP wy.2]) := by
        show PyData.list ((wy.1 ++ [wy.2]).map dP) = _
        rw [List.map_append]
        rfl
      rw [← e]
      exact rw1
    refine g_set (ev_dget (J := dt (dPs (nx t wy.2))) (is := [wy.2.1, wy.2.2.1, wy.2.2.2]) (ev_var (I := dtI am mvs) ⟨rfl, em2⟩) (ev_op (ev_var rw1') (ev_un (g := fun i => -i) (ev_int (i := 1))) (rv_ixL (atI_last _ _))) hu (Rp.mono (Sd.of S.gr.base) ru)) g2.sub fun fv B3 H3 g3 pf => ?_
    -- all that is known behind the pop
    have k3 := g3.kept S.bD (upd_same (H := H2) (a := D) (o := .lst ws))
    have hfr := S.fr
    have hlen := S.len
    -- what the loop does, from the ys that are out
    have rest : ∀ (ys' : List V) (done' : List (List Place)) (B4 H4 : Hp), Grow B3 H3 B4 H4 → RpA B4 ys' (done'.map dPs) → FrN H1 (ws ++ ys') → done' ++ outS t (st' ++ pushW t wy) = allW t → szS t (st' ++ pushW t wy) + ys'.length ≤ 216 →
        tGThen (tPlain (tbFor K)) tG0
          { nx := fun ys' σ' H' => ∃ m', m' < szS t (st' ++ [wy]) ∧ m' + ys'.length ≤ 216 ∧ ∃ B' st done vs, (∃ a b c, σ' = [some v1, some (.ref am), some (.ref D), a, b, c]) ∧ szS t st = m' ∧ Stk t B1 H1 v1 am D (allW t) 216 ys' σ' B' H' st done vs, rt := fun _ _ _ => False,
            ct := fun ys' σ' H' => ∃ m', m' < szS t (st' ++ [wy]) ∧ m' + ys'.length ≤ 216 ∧ ∃ B' st done vs, (∃ a b c, σ' = [some v1, some (.ref am), some (.ref D), a, b, c]) ∧ szS t st = m' ∧ Stk t B1 H1 v1 am D (allW t) 216 ys' σ' B' H' st done vs,
            bk := fun ys σ H' => tG0 { nx := fun ys _ H' => ys.length ≤ sizeLine ∧ Q ys H', rt := fun _ _ _ => False } ys σ H' } ys' [some v1, some (.ref am), some (.ref D), some v, some fv, c] H4 := ?_
    · refine g_if (et_not (et_lst (ev_var (I := dt (dPs (nx t wy.2))) pf))) g3.sub (fun e B4 H4 g4 => ?_) fun e B4 H4 g4 => ?_
      · have hn : nx t wy.2 = [] := by
          cases z : nx t wy.2 with
          | nil => rfl
          | cons a l =>
            rw [z] at e
            cases e
        have hp0 : pushW t wy = [] := by
          unfold pushW
          rw [hn]
          rfl
        have hy : ys.length < 216 := by
          have := sz_pos t wy.2
          rw [hszs] at hlen
          omega
        have ry4 := S.ry.mono (Sd.of (g3.base.trans g4.base))
        have rv4 := Rp.mono (Sd.of (g3.base.trans g4.base)) rw1
        refine ⟨Nat.lt_of_lt_of_le hy (by decide), v, rfl, ?_⟩
        refine rest (ys ++ [v]) (done ++ [full wy]) B4 H4 g4 ?_ ⟨fun z hz => ?_, ?_⟩ ?_ ?_
        · rw [List.map_append]
          exact ry4.app (.one rv4)
        · refine hfr.1 z ?_
          simp only [List.mem_append, List.mem_singleton] at hz ⊢
          rcases hz with h | h | h <;> simp [h]
        · have h := hfr.2
          have hperm : (ws ++ (ys ++ [v])).Perm (ws ++ [v] ++ ys) := by
            rw [List.append_assoc]
            exact (List.perm_append_comm).append_left ws
          exact hperm.nodup_iff.mpr h
        · rw [hp0, List.append_nil, ← S.tot, outS_app, outS_one, outW_end ok wo.may wo.good hn, List.append_assoc]
        · rw [hp0, List.append_nil, List.length_append, List.length_singleton]
          rw [hszs] at hlen
          omega
      · have hn : nx t wy.2 ≠ [] := fun z => by
          rw [z] at e
          cases e
        refine rest ys done B4 H4 g4 (S.ry.mono (Sd.of (g3.base.trans g4.base))) ⟨fun z hz => hfr.1 z ?_, ?_⟩ ?_ ?_
        · simp only [List.mem_append, List.mem_singleton] at hz ⊢
          rcases hz with h | h <;> simp [h]
        · exact hfr.2.sublist ((List.sublist_append_left ws [v]).append_right ys)
        · rw [← S.tot, outS_app, outS_app, outS_one, outW_step ok wo.may hn]
        · rw [szS_app]
          rw [hszs] at hlen
          omega
    intro ys' done' B4 H4 g4 ry4 fr4 tot4 len4
    have k4 := g4.kept k3.1 k3.2
    have g34 := g3.trans g4
    have gA : Grow B1 H1 B4 H4 := g2.trans g34
    have pf4 : Rp B4 fv (dPs (nx t wy.2)) := Rp.mono (Sd.of g4.base) pf
    have pw4 : Rp B4 v (.list (full wy |>.map dP)) := Rp.mono (Sd.of g34.base) rw1
    have rws4 := rws.mono (Sd.of g34.base)
    refine s_for (D := _) (wk_rev (ds := (nx t wy.2).map dP) (ev_cb (ea1 (ev_var (I := dt (dPs (nx t wy.2))) pf4)) rc_list)) g4.sub fun B5 H5 g5 =>
      ⟨fun i σ Bi Hi => (∃ y, σ = [some v1, some (.ref am), some (.ref D), some v, some fv, y]) ∧ (Grow B1 H1 Bi Hi ∧ Same B4 Bi) ∧ Bi D = none ∧ ∃ vs, Hi D = some (.lst vs) ∧ RpA Bi vs ((st' ++ (pushW t wy).take i).map fun w => dPs (full w)) ∧ FrN H1 (vs ++ ys'), ?_, ?_, ?_⟩
    · have k5 := g5.kept k4.1 k4.2
      refine ⟨⟨_, rfl⟩, ⟨gA.trans g5, g5.base⟩, k5.1, ws, k5.2, ?_, fr4⟩
      rw [List.take_zero, List.append_nil]
      exact rws4.mono (Sd.of g5.base)
    · rintro i x _ B6 H6 B7 H7 l ⟨⟨y, rfl⟩, ⟨gi, si⟩, bi, vs, ei, ri, fi⟩ s6 g7 px
      rw [List.length_map] at l
      have lp : i < (pushW t wy).length := by
        unfold pushW
        rw [List.length_map, List.length_reverse]
        exact l
      have lr : i < (nx t wy.2).reverse.length := by
        rw [List.length_reverse]
        exact l
      have px : Rp B7 x ((((nx t wy.2).map dP).reverse).getD i .none) := px
      rw [← List.map_reverse, getD_mapf lr] at px
      refine ⟨_, gt_name, ?_⟩
      have k7 := g7.kept bi ei
      have gi7 := gi.trans g7
      have hwl : (full wy).length ≤ 4 := by
        have := wo.len
        unfold full
        rw [List.length_append, List.length_singleton]
        omega
      have hvl : vs.length ≤ 216 := by
        have h1 := ri.length
        rw [List.length_map, List.length_append, List.length_take] at h1
        have h2 := szS_len t (st' ++ pushW t wy)
        rw [List.length_append] at h2
        omega
      refine ⟨.ref D, rfl, .inl ⟨rfl, _, SqL.of k7.2⟩, ?_⟩
      refine lst_new (ds := (full wy).map dP ++ [dP ((nx t wy.2).reverse[i])]) (ea_starL (ds := (full wy).map dP) (es := [dP ((nx t wy.2).reverse[i])]) (ev_var (I := dt (.list ((full wy).map dP))) (Rp.mono (Sd.of (si.trans g7.base)) pw4)) (ea1 (ev_var px))) ?_ g7.sub fun p B8 H8 g8 r8 hp8 _ => ?_
      · rw [List.length_append, List.length_map, List.length_singleton]
        omega
      · have k8 := g8.kept k7.1 k7.2
        have gi8 := gi7.trans g8
        have hp1 : H1 p = none := gi7.top.free hp8
        have ri7 := ri.mono (Sd.of g7.base)
        have nvs : V.ref p ∉ vs := by
          have : RpA B7 vs (((st' ++ (pushW t wy).take i).map full).map dPs) := by
            rw [List.map_map]
            exact ri7
          exact fr_notin this (g7.sub.free hp8)
        have nys : V.ref p ∉ ys' := fr_notin (ry4.mono (Sd.of (si.trans g7.base))) (g7.sub.free hp8)
        refine ⟨D, vs, .ref p, rfl, rfl, k8.2, Nat.lt_of_le_of_lt hvl (by decide), ?_⟩
        refine ⟨B8, s6.trans (g7.base.trans g8.base), Same.put gi8.sub k8.1, ⟨_, rfl⟩, ⟨gi8.put hD1 k8.1, si.trans (g7.base.trans g8.base)⟩, k8.1, vs ++ [.ref p], upd_same, ?_, fun z hz => ?_, ?_⟩
        · have e2 : (st' ++ (pushW t wy).take (i + 1)).map (fun w => dPs (full w)) = (st' ++ (pushW t wy).take i).map (fun w => dPs (full w)) ++ [.list ((full wy).map dP ++ [dP ((nx t wy.2).reverse[i])])] := by
            rw [List.take_succ_eq_append_getElem lp, ← List.append_assoc, List.map_append]
            congr 1
            rw [push_get lr lp]
            show [PyData.list ((full wy ++ [(nx t wy.2).reverse[i]]).map dP)] = _
            rw [List.map_append]
            rfl
          rw [e2]
          exact (ri7.mono (Sd.of g8.base)).app (.one r8)
        · simp only [List.mem_append, List.mem_singleton] at hz
          rcases hz with (h | h) | h
          · exact fi.1 z (List.mem_append_left _ h)
          · exact ⟨p, h, hp1⟩
          · exact fi.1 z (List.mem_append_right _ h)
        · have hperm : (vs ++ [V.ref p] ++ ys').Perm (V.ref p :: (vs ++ ys')) := by
            rw [List.append_assoc]
            exact List.perm_middle
          refine hperm.nodup_iff.mpr (List.nodup_cons.mpr ⟨fun h => ?_, fi.2⟩)
          rcases List.mem_append.mp h with h | h
          · exact nvs h
          · exact nys h
    · rintro _ B6 H6 ⟨⟨y, rfl⟩, ⟨gi, si⟩, bi, vs, ei, ri, fi⟩ s6 s7
      have l0 : ((nx t wy.2).map dP).length = (pushW t wy).length := by
        unfold pushW
        rw [List.length_map, List.length_map, List.length_reverse]
      rw [l0, List.take_length] at ri
      refine ⟨szS t (st' ++ pushW t wy), ?_, len4, B6, st' ++ pushW t wy, done', vs, ⟨_, _, _, rfl⟩, rfl, ⟨gi, bi, ei, ri, ry4.mono (Sd.of si), fi, fun w hw => ?_, tot4, len4⟩⟩
      · rw [hszs, szS_app]
        omega
      · rcases List.mem_append.mp hw with h | h
        · exact wst w h
        · exact wok_push ok wo w h
end
end Sky

set_option Elab.async false
set_option linter.all false
set_option maxRecDepth 100000
set_option maxHeartbeats 4000000
/-! Loops over bases, where nothing is owned; small readings. -/
namespace Sky
open PySem PySem.Spec PyProof.Rows L2
section
variable {K : PySem.W.Frag} {σ : L2.St} {H B : Hp} {D : Ends} {tu tb : TS} {te ta : TE} {I : Item} {d e : PyData} {ds es : List PyData} {i : Int}
theorem s_forG {wi : TI} {g : TG} {n : Nat} {Y : Nat → Item} (hw : Wk wi σ B n Y) (s : Same B H) (Pv : Nat → L2.St → Hp → Prop) (mono : ∀ i σ B1 B2, Same B1 B2 → Pv i σ B1 → Pv i σ B2) (h0 : ∀ B0, Same B B0 → Pv 0 σ B0)
    (turn : ∀ i x σ1 B1 H1, i < n → Grow B H B1 H1 → Pv i σ1 B1 → (Y i).P x B1 → ∃ σ2, Gt g x σ1 B1 σ2 ∧ ∀ N : L2.St → Hp → Prop, (∀ σ' B' H', Grow B1 H1 B' H' → Pv (i + 1) σ' B' → N σ' H') → tb { D with nx := N, ct := N, bk := tu D } σ2 H1)
    (done : ∀ σ1 B1 H1, Grow B H B1 H1 → Pv n σ1 B1 → tu D σ1 H1) : tSeq (tFor wi g tb) tu D σ H := by
  refine s_forq hw s fun B0 H0 g0 => ⟨fun i σ Bi Hi => Grow B H Bi Hi ∧ Pv i σ Bi, ⟨g0, h0 B0 g0.base⟩, ?_, ?_⟩
  · rintro i x σ1 B1 H1 B2 H2 l ⟨g1, p1⟩ s1 g2 px
    obtain ⟨σ2, h1, h2⟩ := turn i x σ1 B2 H2 l (g1.trans g2) (mono i σ1 B1 B2 g2.base p1) px
    exact ⟨σ2, h1, h2 _ fun σ' B' H' g p => ⟨B', s1.trans (g2.base.trans g.base), g.sub, (g1.trans g2).trans g, p⟩⟩
  · rintro σ1 B1 H1 ⟨g1, p1⟩ _ _
    exact done σ1 B1 H1 g1 p1
theorem ev_ixT (h : EvD te σ H (.tuple ds)) (hi : EvD ta σ H (.int i)) (hx : atI ds i = some d) : EvD (tOp (rIxT K) te ta) σ H d := ev_op h hi (rv_ixT hx)
theorem ev_ixL (h : EvD te σ H (.list ds)) (hi : EvD ta σ H (.int i)) (hx : atI ds i = some d) : EvD (tOp (rIxL K) te ta) σ H d := ev_op h hi (rv_ixL hx)
theorem ev_lenL (h : EvD te σ H (.list ds)) : EvD (tCB (rLn K) (tCons te tNil)) σ H (.int ds.length) := ev_cb (ea1 h) rc_len
theorem ev_lenT (h : EvD te σ H (.tuple ds)) : EvD (tCB (rLn K) (tCons te tNil)) σ H (.int ds.length) := ev_cb (ea1 h) rc_lenT
theorem atI_nat' {α : Type} {xs : List α} {j : Nat} (h : j < xs.length) : atI xs (j : Int) = some xs[j] := by
  exact atI_nat (List.getElem?_eq_getElem h)
theorem rg_zero (j : Nat) : ((0 : Int) + (j : Int)) = (j : Int) := by omega
end
end Sky

set_option Elab.async false
set_option linter.all false
set_option maxRecDepth 100000
set_option maxHeartbeats 4000000
/-! The law's cells, spots, neighbours. -/
namespace Sky
open PySem PySem.Spec PyProof.Rows L2
section
variable {P : Program} {w : World} {K : PySem.W.Frag} {mg : Str → Option Value} {base : Heap} {W : Wd}
def mvs5 : List Cell := [(0, 0), (-1, 0), (0, 1), (1, 0), (0, -1)]
abbrev spMoves : Sp := SpF (fun _ : Unit => []) (fun _ => True) fun _ => dt (dCs mvs5)
theorem ita0 {B : Hp} {vs : List V} (h : ItA B vs []) : vs = [] := by cases h; rfl
theorem ev_pr {σ : L2.St} {B : Hp} {ta tb : TE} {i j : Int} (h1 : EvD ta σ B (.int i)) (h2 : EvD tb σ B (.int j)) : EvD (tTup (tCons ta (tCons tb tNil))) σ B (dC (i, j)) := ev_tup (ds := [.int i, .int j]) (ea_cons h1 (ea1 h2)) (by show 2 ≤ 100000; decide)
theorem sc_law_moves : FnScope [] [] (defScope s__law_moves) := C8.fnScope_by (by decide +kernel)
theorem ok_law_moves  (F : Dfn K mg "_law_moves" s__law_moves []) : C8.Cal P w K mg base 1 "_law_moves" spMoves [] := by
  have sc := sc_law_moves
  refine F.cal sc (SpF.len fun _ => rfl) fun f cdv A outer s H vs Q E hr hsp => ?_
  refine ⟨_, (pss_one (ps_ret (pe_lst (pa_cons (pe_tup (pa_cons pe_int (pa_cons pe_int pa_nil))) (pa_cons (pe_tup (pa_cons (pe_op op_sub pe_int pe_int) (pa_cons pe_int pa_nil))) (pa_cons (pe_tup (pa_cons pe_int (pa_cons pe_int pa_nil))) (pa_cons (pe_tup (pa_cons pe_int (pa_cons pe_int pa_nil))) (pa_cons (pe_tup (pa_cons pe_int (pa_cons (pe_op op_sub pe_int pe_int) pa_nil))) pa_nil)))))))), ?_⟩
  obtain ⟨x, B, hp, s0, ha, q⟩ := hsp
  dsimp only at hp ha q
  obtain rfl := ita0 ha
  have z : ∀ {σ B}, EvD (tOp (rI0 fun i j => .int (i - j)) (tC (.int 0)) (tC (.int 1))) σ B (.int (-1)) := fun {σ B} => ev_i (g := fun i j => i - j) (ev_int (i := 0)) (ev_int (i := 1))
  exact s_ret (ev_lst (ds := mvs5.map dC) (ea_cons (ev_pr ev_int ev_int) (ea_cons (ev_pr z ev_int) (ea_cons (ev_pr ev_int ev_int) (ea_cons (ev_pr ev_int ev_int) (ea_cons (ev_pr ev_int z) ea_nil))))) (by show 5 ≤ 100000; decide)) s0 q
/-! ### cells -/
def cellsN (s : Sea) (n : Nat) : List Cell := (List.range n).flatMap fun j => rowCells j (s.rows.getD j [])
theorem cellsN_succ (s : Sea) (n : Nat) : cellsN s (n + 1) = cellsN s n ++ rowCells n (s.rows.getD n []) := by
  unfold cellsN
  rw [List.range_succ, List.flatMap_append, List.flatMap_cons, List.flatMap_nil, List.append_nil]
theorem rowCells_len (j : Nat) (r : List (Option Int)) : (rowCells j r).length ≤ r.length := by
  unfold rowCells
  exact Nat.le_trans (List.length_filterMap_le _ _) (by rw [List.length_range]; exact Nat.le_refl _)
theorem row_le {s : Sea} (ok : SeaOk s) (j : Nat) : (s.rows.getD j []).length ≤ 3 := by
  obtain ⟨w, w1, w3, hw⟩ := ok.wide
  by_cases h : j < s.rows.length
  · have := hw _ (getD_mem (d := []) h)
    omega
  · simp [List.getD, h]
theorem cellsN_len {s : Sea} (ok : SeaOk s) : ∀ n, (cellsN s n).length ≤ 3 * n
  | 0 => by simp [cellsN]
  | n + 1 => by
    have h1 := cellsN_len ok n
    have h2 := Nat.le_trans (rowCells_len n (s.rows.getD n [])) (row_le ok n)
    rw [cellsN_succ, List.length_append]
    omega
theorem cells_len {s : Sea} (ok : SeaOk s) : (cells s).length ≤ 9 := by
  have h1 := cellsN_len ok s.rows.length
  have h2 := ok.le
  have h3 : cells s = cellsN s s.rows.length := rfl
  rw [h3]
  omega
abbrev spCells : Sp := SpF (fun s : Sea => [dt (dSea s)]) SeaOk fun s => dt (dCs (cells s))
theorem sea_rows {σ : L2.St} {B : Hp} {te : TE} {s : Sea} (h : EvD te σ B (dSea s)) : EvD (tOp (rIxT K) te (tC (.int 0))) σ B (.list (s.rows.map dRow)) := ev_ixT h ev_int rfl
theorem sea_gusts {σ : L2.St} {B : Hp} {te : TE} {s : Sea} (h : EvD te σ B (dSea s)) : EvD (tOp (rIxT K) te (tC (.int 1))) σ B (.list (s.gusts.map dGust)) := ev_ixT h ev_int rfl
theorem sea_top {σ : L2.St} {B : Hp} {te : TE} {s : Sea} (h : EvD te σ B (dSea s)) : EvD (tOp (rIxT K) te (tC (.int 2))) σ B (.int s.top) := ev_ixT h ev_int rfl
theorem row_at {s : Sea} {j : Nat} (h : j < s.rows.length) : atI (s.rows.map dRow) (j : Int) = some (dRow (s.rows.getD j [])) := by
  rw [atI_nat' (by rw [List.length_map]; exact h), List.getElem_map]
  simp [List.getD, h]
theorem dO_at {r : List (Option Int)} {k : Nat} (h : k < r.length) : atI (r.map dO) (k : Int) = some (dO (r.getD k none)) := by
  rw [atI_nat' (by rw [List.length_map]; exact h), List.getElem_map]
  simp [List.getD, h]
theorem sc_law_cells : FnScope ["_law_sea_here", "_law_found", "_law_j", "_law_k"] ["_law_sea_here"] (defScope s__law_cells) := C8.fnScope_by (by decide +kernel)
theorem ok_law_cells (T : Bt mg) (F : Dfn K mg "_law_cells" s__law_cells ["_law_sea_here"]) : C8.Cal P w K mg base 1 "_law_cells" spCells [] := by
  have sc := sc_law_cells
  refine F.cal sc (SpF.len fun _ => rfl) fun f cdv A outer s H vs Q E hr hsp => ?_
  refine ⟨_, (pss_cons (ps_set (i := 1) sc.nd rfl (by first | exact Or.inl rfl | exact Or.inr rfl) (pe_lst pa_nil))
    (pss_cons (ps_for PassesOwn.never rfl (pi_range1 (by rfl) T.n_range (pa_cons (pe_callB call_len_seq (by rfl) T.n_len bb_len (pa_cons (pe_ix ix_tup (pv 0) pe_int (fun _ _ => rfl)) pa_nil)) pa_nil)) (pg_name (i := 2) sc.nd rfl (by first | exact Or.inl rfl | exact Or.inr rfl))
      (pss_one (ps_set (i := 1) sc.nd rfl (by first | exact Or.inl rfl | exact Or.inr rfl) (pe_op op_cat (pv 1) (pe_lc (own := [("_law_k", 3)]) rfl sc.nd (pi_range1 (by rfl) T.n_range (pa_cons (pe_callB call_len_seq (by rfl) T.n_len bb_len (pa_cons (pe_ix ix_list (pe_ix ix_tup (pv 0) pe_int (fun _ _ => rfl)) (pv 2) (fun _ _ => rfl)) pa_nil)) pa_nil)) (blkOk_by (own := [("_law_k", 3)]) (N := ["_law_sea_here", "_law_found", "_law_j", "_law_k"]) (sc := defScope s__law_cells) (by decide +kernel)) (fun _ _ _ _ _ => (pg_name (i := 3) sc.nd rfl (by first | exact Or.inl rfl | exact Or.inr rfl))) (fun _ _ _ _ _ => (pts_one (pt_cmpR op_notN (pe_ix (ix_listK K rfl) (pe_ix (ix_listK K rfl) (pe_ix (ix_tupK K rfl) (pv 0) pe_int (fun _ _ => rfl)) (pv 2) (fun _ _ => rfl)) (pv 3) (fun _ _ => rfl)) pe_non (nomark _)))) (fun _ _ _ _ _ => (pe_tup (pa_cons (pv 2) (pa_cons (pv 3) pa_nil)))))))))
    (pss_one (ps_ret (pv 1))))), ?_⟩
  obtain ⟨x, B, hp, s0, ha, q⟩ := hsp
  dsimp only at hp ha q
  obtain ⟨v1, rfl, h1⟩ := ita1 ha
  have ok : SeaOk x := hp
  refine s_set (ev_lst (ds := []) ea_nil (by decide)) s0 fun vf B1 H1 g1 p1 => ?_
  have h2 : Rp B1 v1 (dSea x) := Rp.mono (Sd.of g1.base) h1
  refine s_forG (wk_r1 (ev_lenL (sea_rows (ev_var (I := dt (dSea x)) h2))) (by omega) (by have := ok.le; rw [List.length_map]; omega)) g1.sub
    (fun i σ B => ∃ vf y z, σ = [some v1, some vf, y, z] ∧ Rp B vf (dCs (cellsN x i))) (fun i σ B1 B2 s ⟨vf, y, z, e, r⟩ => ⟨vf, y, z, e, Rp.mono (Sd.of s) r⟩) (fun B0 s => ⟨vf, _, _, rfl, Rp.mono (Sd.of s) p1⟩)
    (fun i y σ1 B2 H2 l g2 ⟨vf, a, b, e, r⟩ py => ?_) fun σ1 B2 H2 g2 ⟨vf, a, b, e, r⟩ => ?_
  · subst e
    have l : i < x.rows.length := by
      have : i < ((x.rows.map dRow).length : Int).toNat := l
      rw [List.length_map] at this
      omega
    have py : y = .int ((0 : Int) + (i : Int)) := Rp.int_eq py
    rw [rg_zero] at py
    subst py
    refine ⟨_, gt_name, fun N hN => ?_⟩
    have h3 : Rp B2 v1 (dSea x) := Rp.mono (Sd.of g2.base) h2
    have rw3 := row_le ok i
    have hrow : ∀ {σ' : L2.St} {B'} {t}, EvD t σ' B' (dSea x) → ∀ {u}, EvD u σ' B' (.int (i : Nat)) → EvD (tOp (rIxL K) (tOp (rIxT K) t (tC (.int 0))) u) σ' B' (dRow (x.rows.getD i [])) := fun {_ _ _} ht {_} hu => ev_ixL (sea_rows ht) hu (row_at l)
    refine s_set1 (ev_op (L := dt (dCs (cellsN x (i + 1)))) (ev_var (I := dt (.list ((cellsN x i).map dC))) r)
      ((ev_lc (fun k => if ((x.rows.getD i []).getD k none).isSome then some (dC ((i : Int), (k : Int))) else none) (wk_r1 (ev_lenL (hrow (ev_var (I := dt (dSea x)) h3) (ev_var (I := dt (.int (i : Nat))) (.int _)))) (by omega) (by rw [List.length_map]; omega)) (by rw [List.length_map]; omega) fun k z B4 lk s4 pz => ?_) : EvD _ _ _ (.list _)) ?_) g2.sub fun v B3 H3 g3 p3 => hN _ B3 H3 g3 ⟨v, _, _, rfl, p3⟩
    · have lk : k < (x.rows.getD i []).length := by
        rw [List.length_map] at lk
        omega
      have pz : z = .int ((0 : Int) + (k : Int)) := Rp.int_eq pz
      rw [rg_zero] at pz
      subst pz
      have h4 : Rp B4 v1 (dSea x) := Rp.mono (Sd.of s4) h3
      refine ⟨_, ((x.rows.getD i []).getD k none).isSome, gt_name, rfl, et_test ((ev_notN (ev_ixL (hrow (ev_var (I := dt (dSea x)) h4) (ev_var (I := dt (.int (i : Nat))) (.int _))) (ev_var (I := dt (.int (k : Nat))) (.int _)) (dO_at lk))).is (by rw [isNon_dO])), fun e => ?_, fun e => ?_⟩
      · rw [e]
        rfl
      · rw [e]
        exact ⟨_, rfl, ev_pr (ev_var (I := dt (.int (i : Nat))) (.int _)) (ev_var (I := dt (.int (k : Nat))) (.int _))⟩
    · have e1 : (List.range ((((x.rows.getD i []).map dO).length : Int).toNat)).filterMap (fun k => if ((x.rows.getD i []).getD k none).isSome then some (dC ((i : Int), (k : Int))) else none) = (rowCells i (x.rows.getD i [])).map dC := by
        rw [List.length_map, Int.toNat_natCast]
        unfold rowCells
        rw [List.map_filterMap]
        refine fm_congr fun k _ => ?_
        split <;> rfl
      rw [e1]
      have := cellsN_len ok i
      have := rowCells_len i (x.rows.getD i [])
      have := ok.le
      have hc := rv_cat (ds := (cellsN x i).map dC) (es := (rowCells i (x.rows.getD i [])).map dC) (by rw [List.length_map, List.length_map]; omega)
      rw [← List.map_append, ← cellsN_succ] at hc
      exact hc
  · subst e
    have hl : ((x.rows.map dRow).length : Int).toNat = x.rows.length := by rw [List.length_map, Int.toNat_natCast]
    refine s_ret (ev_var (I := dt (dCs (cells x))) ?_) g2.sub fun v B3 H3 g3 p3 => q v B3 H3 ((g1.trans g2).trans g3) p3
    rw [hl] at r
    exact r
end
end Sky

set_option Elab.async false
set_option linter.all false
set_option maxRecDepth 100000
set_option maxHeartbeats 4000000
/-! The law's spots, what is near. -/
namespace Sky
open PySem PySem.Spec PyProof.Rows L2
theorem lcL_map {α : Type} {f : α → PyData} {g : α → PyData} {h : PyData → Option PyData} {l : List α} (e : ∀ a ∈ l, h (f a) = some (g a)) : (l.map f).filterMap h = l.map g := by
  rw [List.filterMap_map, ← List.filterMap_eq_map]
  exact fm_congr fun a ha => e a ha
section
variable {P : Program} {w : World} {K : PySem.W.Frag} {mg : Str → Option Value} {base : Heap} {W : Wd}
theorem ev_tri {σ : L2.St} {B : Hp} {ta tb tc : TE} {i j k : Int} (h1 : EvD ta σ B (.int i)) (h2 : EvD tb σ B (.int j)) (h3 : EvD tc σ B (.int k)) : EvD (tTup (tCons ta (tCons tb (tCons tc tNil)))) σ B (dP (i, j, k)) := ev_tup (ds := [.int i, .int j, .int k]) (ea_cons h1 (ea_cons h2 (ea1 h3))) (by show 3 ≤ 100000; decide)
def spotsN (s : Sea) (n : Nat) : List Place := (List.range n).flatMap fun (h : Nat) => (cells s).map fun c => ((h : Int), c.1, c.2)
theorem spotsN_succ (s : Sea) (n : Nat) : spotsN s (n + 1) = spotsN s n ++ (cells s).map fun c => ((n : Int), c.1, c.2) := by
  unfold spotsN
  rw [List.range_succ, List.flatMap_append, List.flatMap_cons, List.flatMap_nil, List.append_nil]
theorem spotsN_len {s : Sea} (ok : SeaOk s) : ∀ n, (spotsN s n).length ≤ 9 * n
  | 0 => by simp [spotsN]
  | n + 1 => by
    have h1 := spotsN_len ok n
    have h2 := cells_len ok
    rw [spotsN_succ, List.length_append, List.length_map]
    omega
theorem spots_len {s : Sea} (ok : SeaOk s) : (spots s).length ≤ 36 := by
  have h1 := spotsN_len ok (s.gusts.length + 1)
  have h2 := ok.gl
  have h3 : spots s = spotsN s (s.gusts.length + 1) := rfl
  rw [h3]
  omega
def fSp (h : Int) : PyData → Option PyData
  | .tuple [.int a, .int b] => some (dP (h, a, b))
  | _ => none
abbrev spSpots : Sp := SpF (fun s : Sea => [dt (dSea s)]) SeaOk fun s => dt (dPs (spots s))
theorem sc_law_spots : FnScope ["_law_sea_here", "_law_found", "_law_clock", "_law_tile"] ["_law_sea_here"] (defScope s__law_spots) := C8.fnScope_by (by decide +kernel)
theorem ok_law_spots (T : Bt mg) (c_law_cells : C8.Cal P w K mg base 1 "_law_cells" spCells []) (F : Dfn K mg "_law_spots" s__law_spots ["_law_sea_here"]) : C8.Cal P w K mg base 2 "_law_spots" spSpots [] := by
  have sc := sc_law_spots
  refine F.cal sc (SpF.len fun _ => rfl) fun f cdv A outer s H vs Q E hr hsp => ?_
  refine ⟨_, (pss_cons (ps_set (i := 1) sc.nd rfl (by first | exact Or.inl rfl | exact Or.inr rfl) (pe_lst pa_nil))
    (pss_cons (ps_for PassesOwn.never rfl (pi_range1 (by rfl) T.n_range (pa_cons (pe_op op_add (pe_callB call_len_seq (by rfl) T.n_len bb_len (pa_cons (pe_ix ix_tup (pv 0) pe_int (fun _ _ => rfl)) pa_nil)) pe_int) pa_nil)) (pg_name (i := 2) sc.nd rfl (by first | exact Or.inl rfl | exact Or.inr rfl))
      (pss_one (ps_set (i := 1) sc.nd rfl (by first | exact Or.inl rfl | exact Or.inr rfl) (pe_op op_cat (pv 1) (pe_lc (own := [("_law_tile", 3)]) rfl sc.nd (pi_list (C8.pe_c c_law_cells hr (by decide) (by rfl) (pa_cons (pv 0) pa_nil))) (blkOk_by (own := [("_law_tile", 3)]) (N := ["_law_sea_here", "_law_found", "_law_clock", "_law_tile"]) (sc := defScope s__law_spots) (by decide +kernel)) (fun _ _ _ _ _ => (pg_name (i := 3) sc.nd rfl (by first | exact Or.inl rfl | exact Or.inr rfl))) (fun _ _ _ _ _ => pts_nil) (fun _ _ _ _ _ => (pe_tup (pa_cons (pv 2) (pa_cons (pe_ix (ix_tupK K rfl) (pv 3) pe_int (fun _ _ => rfl)) (pa_cons (pe_ix (ix_tupK K rfl) (pv 3) pe_int (fun _ _ => rfl)) pa_nil))))))))))
    (pss_one (ps_ret (pv 1))))), ?_⟩
  obtain ⟨x, B, hp, s0, ha, q⟩ := hsp
  dsimp only at hp ha q
  obtain ⟨v1, rfl, h1⟩ := ita1 ha
  have ok : SeaOk x := hp
  refine s_set (ev_lst (ds := []) ea_nil (by decide)) s0 fun vf B1 H1 g1 p1 => ?_
  have h2 : Rp B1 v1 (dSea x) := Rp.mono (Sd.of g1.base) h1
  have hn : (((x.gusts.map dGust).length : Int) + 1).toNat = x.gusts.length + 1 := by rw [List.length_map]; omega
  refine s_forG (wk_r1 (ev_i (g := fun i j => i + j) (ev_lenL (sea_gusts (ev_var (I := dt (dSea x)) h2))) (ev_int (i := 1))) (by omega) (by have := ok.gl; rw [List.length_map]; omega)) g1.sub
    (fun i σ B => ∃ vf y z, σ = [some v1, some vf, y, z] ∧ Rp B vf (dPs (spotsN x i))) (fun i σ B1 B2 s ⟨vf, y, z, e, r⟩ => ⟨vf, y, z, e, Rp.mono (Sd.of s) r⟩) (fun B0 s => ⟨vf, _, _, rfl, Rp.mono (Sd.of s) p1⟩)
    (fun i y σ1 B2 H2 l g2 ⟨vf, a, b, e, r⟩ py => ?_) fun σ1 B2 H2 g2 ⟨vf, a, b, e, r⟩ => ?_
  · subst e
    have l : i < x.gusts.length + 1 := by
      rw [hn] at l
      exact l
    have py : y = .int ((0 : Int) + (i : Int)) := Rp.int_eq py
    rw [rg_zero] at py
    subst py
    refine ⟨_, gt_name, fun N hN => ?_⟩
    have h3 : Rp B2 v1 (dSea x) := Rp.mono (Sd.of g2.base) h2
    have hc := cells_len ok
    refine s_set1 (ev_op (L := dt (dPs (spotsN x (i + 1)))) (ev_var (I := dt (.list ((spotsN x i).map dP))) r)
      (((ev_lcL (fSp i) (wk_list (ds := (cells x).map dC) (ev_call x (ea1 (ev_var (I := dt (dSea x)) h3)) ok)) (by rw [List.length_map]; omega) fun d z B4 hd s4 pz => ?_).is (congrArg PyData.list (lcL_map (f := dC) (g := fun c => dP ((i : Int), c.1, c.2)) fun c _ => rfl))) : EvD _ _ _ (.list _)) ?_) g2.sub fun v B3 H3 g3 p3 => hN _ B3 H3 g3 ⟨v, _, _, rfl, p3⟩
    · obtain ⟨c, hc, rfl⟩ := List.mem_map.mp hd
      have pz : Rp B4 z (dC c) := pz
      exact ⟨_, true, gt_name, rfl, et_yes, (fun e => nomatch e), fun _ => ⟨_, rfl, ev_tri (ev_var (I := dt (.int (i : Nat))) (.int _)) (ev_ixT (ev_var (I := dt (dC c)) pz) ev_int rfl) (ev_ixT (ev_var (I := dt (dC c)) pz) ev_int rfl)⟩⟩
    · have h4 := spotsN_len ok i
      have := ok.gl
      have hc := rv_cat (ds := (spotsN x i).map dP) (es := (cells x).map fun c => dP ((i : Int), c.1, c.2)) (by rw [List.length_map, List.length_map]; omega)
      have e : (spotsN x i).map dP ++ ((cells x).map fun c => dP ((i : Int), c.1, c.2)) = (spotsN x (i + 1)).map dP := by
        rw [spotsN_succ, List.map_append, List.map_map]
        rfl
      rw [e] at hc
      exact hc
  · subst e
    refine s_ret (ev_var (I := dt (dPs (spots x))) ?_) g2.sub fun v B3 H3 g3 p3 => q v B3 H3 ((g1.trans g2).trans g3) p3
    rw [hn] at r
    exact r
def aroundP (p : Place) : List Place := mvs5.map fun m => (p.1 + 1, p.2.1 + m.1, p.2.2 + m.2)
def nearP (s : Sea) (p : Place) : List Place := sortP ((aroundP p).filter fun o => decide (o.2 ∈ cells s))
def fSt (p : Place) : PyData → Option PyData
  | .tuple [.int a, .int b] => some (dP (p.1 + 1, p.2.1 + a, p.2.2 + b))
  | _ => none
def fNr (s : Sea) : PyData → Option PyData
  | .tuple [.int a, .int b, .int c] => if (b, c) ∈ cells s then some (dP (a, b, c)) else none
  | _ => none
theorem fm_near (s : Sea) (l : List Place) : (l.map dP).filterMap (fNr s) = (l.filter fun o => decide (o.2 ∈ cells s)).map dP := by
  induction l with
  | nil => rfl
  | cons p l ih =>
    rw [List.map_cons, List.filterMap_cons]
    by_cases h : p.2 ∈ cells s
    · rw [List.filter_cons_of_pos (by simpa using h), List.map_cons, ← ih, show fNr s (dP p) = some (dP p) from if_pos h]
    · rw [List.filter_cons_of_neg (by simpa using h), ← ih, show fNr s (dP p) = none from if_neg h]
abbrev spNear : Sp := SpF (fun x : Sea × Place => [dt (dSea x.1), dt (dP x.2)]) (fun x => SeaOk x.1) fun x => dt (dPs (nearP x.1 x.2))
theorem dep_of {l : List Place} : ∀ d ∈ l.map dP, d.depth ≤ 60 := fun d hd => by
  obtain ⟨p, _, rfl⟩ := List.mem_map.mp hd
  exact Nat.le_trans (dep_dP p) (by decide)
theorem sc_law_near : FnScope ["_law_sea_here", "_law_spot", "_law_found", "_law_step", "_law_far"] ["_law_sea_here", "_law_spot"] (defScope s__law_near) := C8.fnScope_by (by decide +kernel)
theorem ok_law_near (T : Bt mg) (c_law_cells : C8.Cal P w K mg base 1 "_law_cells" spCells []) (c_law_moves : C8.Cal P w K mg base 1 "_law_moves" spMoves []) (F : Dfn K mg "_law_near" s__law_near ["_law_sea_here", "_law_spot"]) : C8.Cal P w K mg base 2 "_law_near" spNear [] := by
  have sc := sc_law_near
  refine F.cal sc (SpF.len fun _ => rfl) fun f cdv A outer s H vs Q E hr hsp => ?_
  refine ⟨_, (pss_cons (ps_setLc (i := 2) (own := [("_law_step", 3)]) rfl sc.nd rfl rfl (sw_true rfl rfl rfl (by decide +kernel)) (pi_list (pe_c0 c_law_moves hr (by decide) (by rfl))) (blkOk_by (own := [("_law_step", 3)]) (N := ["_law_sea_here", "_law_spot", "_law_found", "_law_step", "_law_far"]) (sc := defScope s__law_near) (by decide +kernel)) (fun _ _ _ _ _ => (pg_name (i := 3) sc.nd rfl (by first | exact Or.inl rfl | exact Or.inr rfl))) (fun _ _ _ _ _ => pts_nil) (fun _ _ _ _ _ => (pe_tup (pa_cons (pe_op op_add (pe_ix (ix_tupK K rfl) (pv 1) pe_int (fun _ _ => rfl)) pe_int) (pa_cons (pe_op op_add (pe_ix (ix_tupK K rfl) (pv 1) pe_int (fun _ _ => rfl)) (pe_ix (ix_tupK K rfl) (pv 3) pe_int (fun _ _ => rfl))) (pa_cons (pe_op op_add (pe_ix (ix_tupK K rfl) (pv 1) pe_int (fun _ _ => rfl)) (pe_ix (ix_tupK K rfl) (pv 3) pe_int (fun _ _ => rfl))) pa_nil))))))
    (pss_one (ps_ret (pe_callB (cr_sortedD (hud hr)) (by rfl) T.n_sorted bb_sorted (pa_cons (pe_lc (own := [("_law_far", 4)]) rfl sc.nd (pi_list (pv 2)) (blkOk_by (own := [("_law_far", 4)]) (N := ["_law_sea_here", "_law_spot", "_law_found", "_law_step", "_law_far"]) (sc := defScope s__law_near) (by decide +kernel)) (fun _ _ _ _ _ => (pg_name (i := 4) sc.nd rfl (by first | exact Or.inl rfl | exact Or.inr rfl))) (fun _ _ _ _ _ => (pts_one (pt_cmpR (op_inDK K rfl (hui hr)) (pe_slice (sl_tupK K rfl) (pv 4) (po_some pe_int) po_none) (C8.pe_c c_law_cells hr (by decide) (by rfl) (pa_cons (pv 0) pa_nil)) (by rfl)))) (fun _ _ _ _ _ => (pv 4))) pa_nil))))), ?_⟩
  obtain ⟨⟨x, p⟩, B, hp, s0, ha, q⟩ := hsp
  dsimp only at hp ha q
  obtain ⟨v1, v2, rfl, h1, h2⟩ := ita2 ha
  have ok : SeaOk x := hp
  refine s_set ((ev_lcL (fSt p) (wk_list (ds := mvs5.map dC) (ev_call () ea_nil trivial)) (by show 5 ≤ 100000; decide) fun d z B4 hd s4 pz => ?_).is (congrArg PyData.list (lcL_map (l := mvs5) (f := dC) (g := fun m => dP (p.1 + 1, p.2.1 + m.1, p.2.2 + m.2)) fun c _ => rfl))) s0 fun vf B1 H1 g1 p1 => ?_
  · obtain ⟨c, hc, rfl⟩ := List.mem_map.mp hd
    have pz : Rp B4 z (dC c) := pz
    have hp4 : Rp B4 v2 (dP p) := Rp.mono (Sd.of s4) h2
    exact ⟨_, true, gt_name, rfl, et_yes, (fun e => nomatch e), fun _ => ⟨_, rfl, ev_tri (ev_i (g := fun i j => i + j) (ev_ixT (ev_var (I := dt (dP p)) hp4) ev_int rfl) (ev_int (i := 1))) (ev_i (g := fun i j => i + j) (ev_ixT (ev_var (I := dt (dP p)) hp4) ev_int rfl) (ev_ixT (ev_var (I := dt (dC c)) pz) ev_int rfl)) (ev_i (g := fun i j => i + j) (ev_ixT (ev_var (I := dt (dP p)) hp4) ev_int rfl) (ev_ixT (ev_var (I := dt (dC c)) pz) ev_int rfl))⟩⟩
  · have p1 : Rp B1 vf (.list ((aroundP p).map dP)) := by
      have e : (mvs5.map fun m => dP (p.1 + 1, p.2.1 + m.1, p.2.2 + m.2)) = (aroundP p).map dP := by
        unfold aroundP
        rw [List.map_map]
        rfl
      rw [← e]
      exact p1
    have h1' : Rp B1 v1 (dSea x) := Rp.mono (Sd.of g1.base) h1
    have hl : (aroundP p).length = 5 := rfl
    have E := ev_lcL (g := gName 4) (vs := [4]) (te := tVar 4) (tt := tTest (tOp (rInD K) (tSl (rSlT K) (tVar 4) (tPart (tC (.int 1))) tNoPart) (tCall spCells [] C8.E0 (tCons (tVar 0) tNil)))) (σ := [some v1, some v2, some vf, none, none]) (fNr x) (wk_list (K := K) (ev_var (n := 2) (I := dt (.list ((aroundP p).map dP))) p1)) (by rw [List.length_map, hl]; decide) fun d z B4 hd s4 pz => by
      obtain ⟨o, ho, rfl⟩ := List.mem_map.mp hd
      have pz : Rp B4 z (dP o) := pz
      have h4 : Rp B4 v1 (dSea x) := Rp.mono (Sd.of s4) h1'
      refine ⟨_, decide (o.2 ∈ cells x), gt_name, rfl, et_test ((ev_op (ev_slT (ev_var (I := dt (dP o)) pz) (eo_some (ev_int (i := 1))) eo_none fun h => absurd (show HT.sIx 3 0 (some 1) = 0 from h.1) (by decide)) (ev_call x (ea1 (ev_var (I := dt (dSea x)) h4)) ok) (rv_inD (d := dC o.2) (ds := (cells x).map dC) (sh_dC _) (sh_dCs _))).is (congrArg PyData.bool (any_dC _ _))), fun e => ?_, fun e => ?_⟩
      · exact if_neg (of_decide_eq_false e)
      · exact ⟨dP o, if_pos (of_decide_eq_true e), ev_var (I := dt (dP o)) pz⟩
    rw [fm_near] at E
    refine s_ret ((ev_sorted E (alike_dP _) (sortable_dP _) ?_ dep_of).is ?_) g1.sub fun v B3 H3 g3 p3 => q v B3 H3 (g1.trans g3) p3
    · rw [List.length_map]
      exact Nat.le_trans (List.length_filter_le _ _) (by rw [hl]; decide)
    · rw [← sortP_eq]
      rfl
end
end Sky

set_option Elab.async false
set_option linter.all false
set_option maxRecDepth 100000
set_option maxHeartbeats 4000000
/-! Plain: the order of places; what is near is what is next; the law's tracks are the ways. -/
namespace Sky
open PySem PySem.Spec PyProof.Rows L2
/-! ### the order -/
theorem dlt_tri (a b c a' b' c' : Int) : PySem.W.dataLt (.tuple [.int a, .int b, .int c]) (.tuple [.int a', .int b', .int c']) = decide (a < a' ∨ (a = a' ∧ (b < b' ∨ (b = b' ∧ c < c')))) := by
  have e0 : PyProof.Rows.lexLt itemOrd (PySem.W.keyToksAll []) (PySem.W.keyToksAll []) = false := lex_irrefl _
  rw [PySem.W.dataLt_tuple, PySem.W.dataLt_cons (by simp [PySem.W.alike]), PySem.W.dataLt_cons (by simp [PySem.W.alike]), PySem.W.dataLt_cons (by simp [PySem.W.alike]), PySem.W.dataLt_int, PySem.W.dataLt_int, PySem.W.dataLt_int, e0]
  simp only [PyData.eqv, beq_iff_eq]
  by_cases h1 : a = a' <;> by_cases h2 : b = b' <;> by_cases h3 : c = c' <;> simp [h1, h2, h3]
abbrev leP (p q : Place) : Bool := PySem.W.dataLe false id (dP p) (dP q)
theorem leP_iff (p q : Place) : leP p q = true ↔ (p.1 < q.1 ∨ (p.1 = q.1 ∧ (p.2.1 < q.2.1 ∨ (p.2.1 = q.2.1 ∧ p.2.2 ≤ q.2.2)))) := by
  show (!PySem.W.dataLt (dP q) (dP p)) = true ↔ _
  unfold dP
  rw [dlt_tri, Bool.not_eq_true', decide_eq_false_iff_not]
  omega
theorem leP_anti {p q : Place} (h1 : leP p q = true) (h2 : leP q p = true) : p = q := by
  rw [leP_iff] at h1 h2
  obtain ⟨a, b, c⟩ := p
  obtain ⟨a', b', c'⟩ := q
  dsimp only at h1 h2
  have : a = a' ∧ b = b' ∧ c = c' := by omega
  obtain ⟨rfl, rfl, rfl⟩ := this
  rfl
theorem sortP_pw (l : List Place) : (sortP l).Pairwise fun a b => leP a b = true :=
  List.pairwise_mergeSort (le := leP) (fun a b c h1 h2 => by rw [leP_iff] at *; omega) (fun a b => by
    rw [Bool.or_eq_true, leP_iff, leP_iff]
    omega) l
theorem sortP_uniq {l m : List Place} (h : l.Perm m) : sortP l = sortP m :=
  List.Perm.eq_of_pairwise (le := fun a b => leP a b = true) (fun a b _ _ h1 h2 => leP_anti h1 h2) (sortP_pw l) (sortP_pw m) ((sortP_perm l).trans (h.trans (sortP_perm m).symm))
theorem sortC_hour (h : Int) (l : List Cell) : (sortC l).map (fun c => ((h, c.1, c.2) : Place)) = sortP (l.map fun c => (h, c.1, c.2)) := by
  refine PySem.W.sort_maps (r := fun a b => PySem.W.dataLe false id (dC a) (dC b)) (s := leP) (fun c => ((h, c.1, c.2) : Place)) fun a _ b _ => ?_
  rw [Bool.eq_iff_iff, leP_iff]
  show (!PySem.W.dataLt (dC b) (dC a)) = true ↔ _
  unfold dC
  rw [PySem.W.dataLt_ii, Bool.not_eq_true', decide_eq_false_iff_not]
  dsimp only
  omega
/-! ### near is next -/
theorem near_next {t : Tr} {p : Place} (hp : p.2 ∈ cells t.s) (h : p.1 ≠ t.l) : nearP t.s p = nextT t p := by
  unfold nextT
  rw [if_neg h, sortC_hour]
  unfold nearP
  refine sortP_uniq ?_
  have e1 : (aroundP p).filter (fun o => decide (o.2 ∈ cells t.s)) = ((([(0, 0), (-1, 0), (0, 1), (1, 0), (0, -1)] : List Cell).map fun m => (p.2.1 + m.1, p.2.2 + m.2)).filter fun c => decide (c ∈ cells t.s)).map fun c => (p.1 + 1, c.1, c.2) := by
    unfold aroundP
    rw [List.filter_map, List.filter_map, List.map_map]
    rfl
  rw [e1]
  refine List.Perm.map _ ?_
  unfold nbrs
  have e2 : p.2 :: (around p.2).filter (fun d => decide (d ∈ cells t.s)) = (p.2 :: around p.2).filter fun d => decide (d ∈ cells t.s) := by
    rw [List.filter_cons_of_pos (by simpa using hp)]
  rw [e2]
  refine List.Perm.filter _ ?_
  unfold around
  simp only [List.map_cons, List.map_nil]
  have e3 : ((p.2.1 + 0, p.2.2 + 0) : Cell) = p.2 := by
    rw [Int.add_zero, Int.add_zero]
  rw [e3]
  refine List.Perm.cons _ (List.Perm.cons _ ?_)
  exact (List.Perm.cons _ (List.Perm.swap _ _ _)).trans (List.Perm.swap _ _ _)
def nextL (t : Tr) (p : Place) : List Place := (nearP t.s p).filter fun o => !decide (o ∈ banL t)
theorem nextL_eq {t : Tr} {p : Place} (hp : p.2 ∈ cells t.s) (h : p.1 ≠ t.l) : nextL t p = nextB t p := by
  unfold nextL nextB banL
  rw [near_next hp h]
  cases t.ban with
  | none => simp
  | some ps => rfl
/-! ### the tracks -/
def trk (t : Tr) : Nat → List Bw
  | 0 => if startP t ∈ banL t then [] else [([], startP t)]
  | k + 1 => (trk t k).flatMap fun w => (nextL t w.2).map fun o => (full w, o)
def endB (t : Tr) (w : Bw) : Bool := decide (w.2.2 = t.b)
theorem may_cells {t : Tr} {p : Place} (m : May t p) : p.2 ∈ cells t.s := (mem_spots.mp m.spot).2.2
theorem trk_may {t : Tr} (ok : TrOk t) : ∀ k, k ≤ steps t → ∀ w ∈ trk t k, May t w.2 ∧ w.2.1 = t.e + k ∧ w.1.length = k
  | 0, _, w, hw => by
    unfold trk at hw
    split at hw
    · cases hw
    · rename_i hb
      rw [List.mem_singleton.mp hw]
      exact ⟨may_start ok hb, by show t.e = t.e + ((0 : Nat) : Int); omega, rfl⟩
  | k + 1, hk, w, hw => by
    obtain ⟨v, hv, hw⟩ := List.mem_flatMap.mp hw
    obtain ⟨o, ho, rfl⟩ := List.mem_map.mp hw
    obtain ⟨m, e, l⟩ := trk_may ok k (by omega) v hv
    have hl : v.2.1 ≠ t.l := by
      unfold steps at hk
      omega
    rw [nextL_eq (may_cells m) hl] at ho
    obtain ⟨m2, e2⟩ := may_next ok m ho
    refine ⟨m2, ?_, ?_⟩
    · show o.1 = _
      rw [e2, e]
      omega
    · show (full v).length = _
      unfold full
      rw [List.length_append, l]
      rfl
theorem outW_next {t : Tr} (ok : TrOk t) {w : Bw} (m : May t w.2) (h : w.2.1 < t.l) : outW t w = ((nextB t w.2).map fun o => (full w, o)).flatMap (outW t) := by
  unfold outW
  rw [wy_step ok m h]
  generalize nextB t w.2 = l
  induction l with
  | nil => rfl
  | cons o l ih =>
    rw [List.flatMap_cons, List.map_append, ih, List.map_cons, List.flatMap_cons]
    congr 1
    unfold full
    rw [List.map_map]
    apply List.map_congr_left
    intro a _
    show w.1 ++ (w.2 :: a) = (w.1 ++ [w.2]) ++ a
    rw [List.append_assoc]
    rfl
theorem flat_flat {α β γ : Type} (l : List α) (f : α → List β) (g : β → List γ) : (l.flatMap f).flatMap g = l.flatMap fun a => (f a).flatMap g := List.flatMap_assoc ..
theorem trk_out {t : Tr} (ok : TrOk t) : ∀ k, k ≤ steps t → (trk t k).flatMap (outW t) = allW t
  | 0, _ => by
    unfold trk allW
    split
    · rfl
    · rw [List.flatMap_cons, List.flatMap_nil, List.append_nil]
      exact List.map_id' _
  | k + 1, hk => by
    rw [← trk_out ok k (by omega)]
    show ((trk t k).flatMap _).flatMap _ = _
    rw [flat_flat]
    refine flat_congr fun w hw => ?_
    obtain ⟨m, e, _⟩ := trk_may ok k (by omega) w hw
    have hl : w.2.1 < t.l := by
      unfold steps at hk
      omega
    rw [nextL_eq (may_cells m) (by omega), ← outW_next ok m hl]
theorem trk_end {t : Tr} (ok : TrOk t) : ((trk t (steps t)).filter (endB t)).map full = allW t := by
  rw [← trk_out ok (steps t) (Nat.le_refl _)]
  have h := trk_may ok (steps t) (Nat.le_refl _)
  generalize trk t (steps t) = l at h
  induction l with
  | nil => rfl
  | cons w l ih =>
    have ih := ih fun v hv => h v (List.mem_cons_of_mem _ hv)
    obtain ⟨m, e, _⟩ := h w (List.mem_cons_self ..)
    have hl : w.2.1 = t.l := by
      have := ok.el
      unfold steps at e
      omega
    rw [List.flatMap_cons, ← ih]
    have eo : outW t w = if endB t w then [full w] else [] := by
      unfold outW
      rw [wy_last hl]
      by_cases hb : w.2.2 = t.b
      · have hg : w.2 = goalP t := by
          obtain ⟨i, p⟩ := w
          obtain ⟨a, b⟩ := p
          dsimp only at hl hb ⊢
          rw [hl, hb]
          rfl
        have he : endB t w = true := decide_eq_true hb
        rw [if_pos hg, if_pos he]
        rfl
      · have hg : ¬ w.2 = goalP t := fun z => hb (by rw [z]; rfl)
        have he : ¬ endB t w = true := fun z => hb (of_decide_eq_true z)
        rw [if_neg hg, if_neg he]
        rfl
    rw [eo]
    by_cases he : endB t w = true
    · rw [List.filter_cons_of_pos he, if_pos he]
      rfl
    · rw [List.filter_cons_of_neg he, if_neg he]
      rfl
theorem nearP_len (s : Sea) (p : Place) : (nearP s p).length ≤ 5 := by
  unfold nearP
  rw [(sortP_perm _).length_eq]
  exact Nat.le_trans (List.length_filter_le _ _) (Nat.le_refl _)
theorem nextL_len (t : Tr) (p : Place) : (nextL t p).length ≤ 5 := Nat.le_trans (List.length_filter_le _ _) (nearP_len _ _)
theorem trk_len (t : Tr) : ∀ k, (trk t k).length ≤ 5 ^ k
  | 0 => by
    unfold trk
    split
    · exact Nat.zero_le _
    · exact Nat.le_refl _
  | k + 1 => by
    have h := flat_len (f := fun w : Bw => (nextL t w.2).map fun o => (full w, o)) (c := 5) (fun w => by rw [List.length_map]; exact nextL_len t w.2) (trk t k)
    have h2 := trk_len t k
    show ((trk t k).flatMap _).length ≤ _
    rw [Nat.pow_succ]
    omega
theorem allW_len {t : Tr} (ok : TrOk t) : (allW t).length ≤ 125 := by
  rw [← trk_end ok, List.length_map]
  exact Nat.le_trans (List.length_filter_le _ _) (Nat.le_trans (trk_len t _) (Nat.le_trans (Nat.pow_le_pow_right (by decide) (steps_le ok)) (by decide)))
end Sky

set_option Elab.async false
set_option linter.all false
set_option maxRecDepth 100000
set_option maxHeartbeats 4000000
/-! The law's tracks. -/
namespace Sky
open PySem PySem.Spec PyProof.Rows L2
def dBan : Option (List Place) → PyData
  | none => .none
  | some ps => dPs ps
def dTour (t : Tr) : PyData := .tuple [dC t.a, dC t.b, .int t.e, .int t.l, dBan t.ban]
theorem isNon_dBan (o : Option (List Place)) : (!isNon (dBan o)) = o.isSome := by cases o <;> rfl
section
variable {P : Program} {w : World} {K : PySem.W.Frag} {mg : Str → Option Value} {base : Heap} {W : Wd}
section
variable {σ : L2.St} {B : Hp} {te : TE} {t : Tr}
theorem tour_a (h : EvD te σ B (dTour t)) : EvD (tOp (rIxT K) te (tC (.int 0))) σ B (dC t.a) := ev_ixT h ev_int rfl
theorem tour_b (h : EvD te σ B (dTour t)) : EvD (tOp (rIxT K) te (tC (.int 1))) σ B (dC t.b) := ev_ixT h ev_int rfl
theorem tour_e (h : EvD te σ B (dTour t)) : EvD (tOp (rIxT K) te (tC (.int 2))) σ B (.int t.e) := ev_ixT h ev_int rfl
theorem tour_l (h : EvD te σ B (dTour t)) : EvD (tOp (rIxT K) te (tC (.int 3))) σ B (.int t.l) := ev_ixT h ev_int rfl
theorem tour_n (h : EvD te σ B (dTour t)) : EvD (tOp (rIxT K) te (tC (.int 4))) σ B (dBan t.ban) := ev_ixT h ev_int rfl
theorem tour_start (h : EvD te σ B (dTour t)) : EvD (tOp (rCatT K) (tTup (tCons (tOp (rIxT K) te (tC (.int 2))) tNil)) (tOp (rIxT K) te (tC (.int 0)))) σ B (dP (startP t)) :=
  ev_op (ev_tup (ds := [.int t.e]) (ea1 (tour_e h)) (by show 1 ≤ 100000; decide)) (tour_a h) (rv_catT (ds := [.int t.e]) (es := [.int t.a.1, .int t.a.2]) (by show 3 ≤ 100000; decide) (by simp))
end
theorem gt_two {σ : L2.St} {B : Hp} {v : V} {d e : PyData} {i j : Nat} (r : Rp B v (.tuple [d, e])) : ∃ x y, Rp B x d ∧ Rp B y e ∧ Gt (gTup K 2 (gCons (gName i) (gCons (gName j) gNil))) v σ B ((σ.set i (some x)).set j (some y)) := by
  obtain ⟨p, xs, rfl, h, r⟩ := Rp.tup_eq r
  cases r with
  | cons r1 r => cases r with
  | cons r2 r =>
    cases r
    exact ⟨_, _, r1, r2, gt_tup h rfl (gts_cons gt_name (gts_cons gt_name gts_nil))⟩
theorem gt_three' {σ : L2.St} {B : Hp} {v : V} {d e f : PyData} {i j l : Nat} (r : Rp B v (.tuple [d, e, f])) : ∃ x y z, Rp B x d ∧ Rp B y e ∧ Rp B z f ∧ Gt (gTup K 3 (gCons (gName i) (gCons (gName j) (gCons (gName l) gNil)))) v σ B (((σ.set i (some x)).set j (some y)).set l (some z)) := by
  obtain ⟨p, xs, rfl, h, r⟩ := Rp.tup_eq r
  cases r with
  | cons r1 r => cases r with
  | cons r2 r => cases r with
  | cons r3 r =>
    cases r
    exact ⟨_, _, _, r1, r2, r3, gt_tup h rfl (gts_cons gt_name (gts_cons gt_name (gts_cons gt_name gts_nil)))⟩
theorem s_newL {σ : L2.St} {H : Hp} {D : Ends} {tu : TS} {i : Nat} (k : ∀ d, H d = none → tu D (σ.set i (some (.ref d))) (upd H d (.lst []))) : tSeq (tAsg (tLst tNil) (gName i)) tu D σ H := ⟨Nat.zero_le _, fun d hd => k d hd⟩
def fFar (t : Tr) (v : Bw) : PyData → Option PyData
  | .tuple [.int a, .int b, .int c] => if (a, b, c) ∈ banL t then none else some (dPs (full v ++ [(a, b, c)]))
  | _ => none
theorem fm_far (t : Tr) (v : Bw) (l : List Place) : (l.map dP).filterMap (fFar t v) = ((l.filter fun o => !decide (o ∈ banL t)).map fun o => (full v, o)).map fun w => dPs (full w) := by
  induction l with
  | nil => rfl
  | cons p l ih =>
    rw [List.map_cons, List.filterMap_cons]
    by_cases h : p ∈ banL t
    · rw [List.filter_cons_of_neg (by simpa using h), ← ih, show fFar t v (dP p) = none from if_pos h]
    · rw [List.filter_cons_of_pos (by simpa using h), List.map_cons, List.map_cons, ← ih, show fFar t v (dP p) = some (dPs (full v ++ [p])) from if_neg h]
      rfl
theorem nextL_flat (t : Tr) (l : List Bw) (i : Nat) (h : i < l.length) : (l.take (i + 1)).flatMap (fun w => (nextL t w.2).map fun o => (full w, o)) = (l.take i).flatMap (fun w => (nextL t w.2).map fun o => (full w, o)) ++ (nextL t l[i].2).map fun o => (full l[i], o) := by
  rw [List.take_succ_eq_append_getElem h, List.flatMap_append, List.flatMap_cons, List.flatMap_nil, List.append_nil]
theorem full_last (w : Bw) : atI ((full w).map dP) (-1) = some (dP w.2) := by
  unfold full
  rw [List.map_append]
  exact atI_last _ _
def fEnd (t : Tr) : PyData → Option PyData := fun d => match d with
  | .list ds => match ds.getLast? with
    | some (.tuple [.int _, .int b, .int c]) => if (b, c) = t.b then some d else none
    | _ => none
  | _ => none
theorem fEnd_eq (t : Tr) (w : Bw) : fEnd t (dPs (full w)) = if w.2.2 = t.b then some (dPs (full w)) else none := by
  unfold fEnd dPs full
  rw [List.map_append]
  simp only [List.map_cons, List.map_nil, List.getLast?_concat]
  rfl
theorem fm_end (t : Tr) (l : List Bw) : (l.map fun w => dPs (full w)).filterMap (fEnd t) = ((l.filter (endB t)).map full).map dPs := by
  induction l with
  | nil => rfl
  | cons w l ih =>
    rw [List.map_cons, List.filterMap_cons, fEnd_eq]
    by_cases h : w.2.2 = t.b
    · have he : endB t w = true := decide_eq_true h
      rw [if_pos h, List.filter_cons_of_pos he, List.map_cons, List.map_cons, ← ih]
    · have he : ¬ endB t w = true := fun z => h (of_decide_eq_true z)
      rw [if_neg h, List.filter_cons_of_neg he, ← ih]
abbrev spTracks : Sp := SpF (fun t : Tr => [dt (dSea t.s), dt (dTour t), dt (.int t.l)]) TrOk fun t => dt (dTs (allW t))
theorem sc_law_tracks : FnScope ["_law_sea_here", "_law_tour_here", "_law_end", "_law_begin", "_law_banned", "_law_found", "_law_clock", "_law_longer", "_law_track", "_law_far"] ["_law_sea_here", "_law_tour_here", "_law_end"] (defScope s__law_tracks) := C8.fnScope_by (by decide +kernel)
theorem ok_law_tracks (T : Bt mg) (c_law_near : C8.Cal P w K mg base 2 "_law_near" spNear []) (F : Dfn K mg "_law_tracks" s__law_tracks ["_law_sea_here", "_law_tour_here", "_law_end"]) : C8.Cal P w K mg base 3 "_law_tracks" spTracks [] := by
  have sc := sc_law_tracks
  refine F.cal sc (SpF.len fun _ => rfl) fun f cdv A outer s H vs Q E hr hsp => ?_
  refine ⟨_, (pss_cons (ps_asg (pe_tup (pa_cons (pe_op op_catT (pe_tup (pa_cons (pe_ix ix_tup (pv 1) pe_int (fun _ _ => rfl)) pa_nil)) (pe_ix ix_tup (pv 1) pe_int (fun _ _ => rfl))) (pa_cons (pe_ifExp (pt_cmpR op_notN (pe_ix ix_tup (pv 1) pe_int (fun _ _ => rfl)) pe_non (nomark _)) (pe_ix ix_tup (pv 1) pe_int (fun _ _ => rfl)) (pe_lst pa_nil)) pa_nil))) (pg_tup (n := 2) rfl (pgs_cons (pg_name (i := 3) sc.nd rfl (by first | exact Or.inl rfl | exact Or.inr rfl)) (pgs_cons (pg_name (i := 4) sc.nd rfl (by first | exact Or.inl rfl | exact Or.inr rfl)) pgs_nil))))
    (pss_cons (ps_set (i := 5) sc.nd rfl (by first | exact Or.inl rfl | exact Or.inr rfl) (pe_ifExp (pt_cmpR (op_notInD (hui hr)) (pv 3) (pv 4) (by rfl)) (pe_lst (pa_cons (pe_lst (pa_cons (pv 3) pa_nil)) pa_nil)) (pe_lst pa_nil)))
    (pss_cons (ps_for PassesOwn.never rfl (pi_range2 (by rfl) T.n_range (pa_cons (pe_ix ix_tup (pv 1) pe_int (fun _ _ => rfl)) (pa_cons (pv 2) pa_nil))) (pg_name (i := 6) sc.nd rfl (by first | exact Or.inl rfl | exact Or.inr rfl))
      (pss_cons (ps_set (i := 7) sc.nd rfl (by first | exact Or.inl rfl | exact Or.inr rfl) (pe_lst pa_nil))
      (pss_cons (ps_for PassesOwn.never rfl (pi_list (pv 5)) (pg_name (i := 8) sc.nd rfl (by first | exact Or.inl rfl | exact Or.inr rfl))
        (pss_one (ps_expr (pe_bm PySem.F.plainAttrs_list PySem.F.slot_list_extend PySem.F.type_list_extend mt_extend (pv 7) (pa_cons (pe_lc (own := [("_law_far", 9)]) rfl sc.nd (pi_list (C8.pe_c c_law_near hr (by decide) (by rfl) (pa_cons (pv 0) (pa_cons (pe_ix ix_list (pv 8) (pe_un un_neg pe_int) (fun _ _ => rfl)) pa_nil)))) (blkOk_by (own := [("_law_far", 9)]) (N := ["_law_sea_here", "_law_tour_here", "_law_end", "_law_begin", "_law_banned", "_law_found", "_law_clock", "_law_longer", "_law_track", "_law_far"]) (sc := defScope s__law_tracks) (by decide +kernel)) (fun _ _ _ _ _ => (pg_name (i := 9) sc.nd rfl (by first | exact Or.inl rfl | exact Or.inr rfl))) (fun _ _ _ _ _ => (pts_one (pt_cmpR (op_notInDK K rfl (hui hr)) (pv 9) (pv 4) (by rfl)))) (fun _ _ _ _ _ => (pe_op op_cat (pv 8) (pe_lst (pa_cons (pv 9) pa_nil))))) pa_nil)))))
      (pss_one (ps_set (i := 5) sc.nd rfl (by first | exact Or.inl rfl | exact Or.inr rfl) (pv 7))))))
    (pss_one (ps_ret (pe_lc (own := [("_law_track", 8)]) rfl sc.nd (pi_list (pv 5)) (blkOk_by (own := [("_law_track", 8)]) (N := ["_law_sea_here", "_law_tour_here", "_law_end", "_law_begin", "_law_banned", "_law_found", "_law_clock", "_law_longer", "_law_track", "_law_far"]) (sc := defScope s__law_tracks) (by decide +kernel)) (fun _ _ _ _ _ => (pg_name (i := 8) sc.nd rfl (by first | exact Or.inl rfl | exact Or.inr rfl))) (fun _ _ _ _ _ => (pts_one (pt_cmpR (op_eqDK K rfl (hud hr)) (pe_slice (sl_tupK K rfl) (pe_ix (ix_listK K rfl) (pv 8) (pe_un un_neg pe_int) (fun _ _ => rfl)) (po_some pe_int) po_none) (pe_ix (ix_tupK K rfl) (pv 1) pe_int (fun _ _ => rfl)) (nomark _)))) (fun _ _ _ _ _ => (pv 8)))))))), ?_⟩
  obtain ⟨t, B, hp, s0, ha, q⟩ := hsp
  dsimp only at hp ha q
  obtain ⟨v1, v2, v3, rfl, h1, h2, h3⟩ := ita3 ha
  have ok : TrOk t := hp
  have hst := steps_le ok
  have el : v3 = .int t.l := Rp.int_eq h3
  subst el
  refine s_asg (I := dt (.tuple [dP (startP t), dPs (banL t)])) (ev_tup (ds := [dP (startP t), dPs (banL t)]) (ea_cons (tour_start (ev_var h2)) (ea1 ?_)) (by show 2 ≤ 100000; decide)) s0 fun u B1 H1 g1 p1 => ?_
  · refine ev_if (b := t.ban.isSome) (et_test ((ev_notN (tour_n (ev_var h2))).is (by rw [isNon_dBan]))) (fun e => ?_) fun e => ?_
    · obtain ⟨ps, e2⟩ := Option.isSome_iff_exists.mp e
      refine (tour_n (ev_var h2)).is ?_
      unfold banL
      rw [e2]
      rfl
    · have e2 : t.ban = none := by simpa using e
      refine (ev_lst (ds := []) ea_nil (by decide)).is ?_
      unfold banL
      rw [e2]
      rfl
  obtain ⟨vb, vn, rb, rn, hg⟩ := gt_two (K := K) (i := 3) (j := 4) (σ := [some v1, some v2, some (.int t.l), none, none, none, none, none, none, none]) p1
  refine ⟨_, hg, ?_⟩
  clear hg p1
  have h1 : Rp B1 v1 (dSea t.s) := Rp.mono (Sd.of g1.base) h1
  have h2 : Rp B1 v2 (dTour t) := Rp.mono (Sd.of g1.base) h2
  refine s_set (I := dt (.list ((trk t 0).map fun w => dPs (full w)))) (ev_if (b := !decide (startP t ∈ banL t)) (et_test ((ev_op (ev_var (I := dt (dP (startP t))) rb) (ev_var (I := dt (.list ((banL t).map dP))) rn) (rv_niD (sh_dP _) (sh_dPs _))).is (by rw [any_dP]))) (fun e => ?_) fun e => ?_) g1.sub fun vf B2 H2 g2 p2 => ?_
  · have hb : startP t ∉ banL t := by simpa using e
    refine (ev_lst (ds := [dPs [startP t]]) (ea1 (ev_lst (ds := [dP (startP t)]) (ea1 (ev_var (I := dt (dP (startP t))) rb)) (by show 1 ≤ 100000; decide))) (by show 1 ≤ 100000; decide)).is ?_
    unfold trk
    rw [if_neg hb]
    rfl
  · have hb : startP t ∈ banL t := by simpa using e
    refine (ev_lst (ds := []) ea_nil (by decide)).is ?_
    unfold trk
    rw [if_pos hb]
    rfl
  have g12 := g1.trans g2
  have h1 : Rp B2 v1 (dSea t.s) := Rp.mono (Sd.of g2.base) h1
  have h2 : Rp B2 v2 (dTour t) := Rp.mono (Sd.of g2.base) h2
  have rn : Rp B2 vn (.list ((banL t).map dP)) := Rp.mono (Sd.of g2.base) rn
  have e0 := ok.e0
  have l9 : t.l < 1000000 := by
    have h1 := ok.ll
    have h2 := ok.sea.gl
    unfold Sea.last at h1
    omega
  have el := ok.el
  refine s_forG (wk_r2 (tour_e (ev_var (I := dt (dTour t)) h2)) (ev_var (I := dt (.int t.l)) (.int _)) e0 (by omega) (by omega) l9) g2.sub
    (fun i σ B => ∃ vf a b c d, σ = [some v1, some v2, some (.int t.l), some vb, some vn, some vf, a, b, c, d] ∧ Rp B vf (.list ((trk t i).map fun w => dPs (full w)))) (fun i σ B1 B2 s ⟨vf, a, b, c, d, e, r⟩ => ⟨vf, a, b, c, d, e, Rp.mono (Sd.of s) r⟩) (fun B0 s => ⟨vf, _, _, _, _, rfl, Rp.mono (Sd.of s) p2⟩)
    (fun i y σ1 B3 H3 l g3 ⟨vf, a, b, c, d, e, r⟩ py => ?_) fun σ1 B3 H3 g3 ⟨vf, a, b, c, d, e, r⟩ => ?_
  · subst e
    have l : i < steps t := l
    have py : y = .int (t.e + (i : Int)) := Rp.int_eq py
    subst py
    refine ⟨_, gt_name, fun N hN => ?_⟩
    have h1 : Rp B3 v1 (dSea t.s) := Rp.mono (Sd.of g3.base) h1
    have rn : Rp B3 vn (.list ((banL t).map dP)) := Rp.mono (Sd.of g3.base) rn
    have hlen := trk_len t
    have hlen3 : ∀ j, j ≤ 3 → (trk t j).length ≤ 125 := fun j hj => Nat.le_trans (hlen j) (Nat.le_trans (Nat.pow_le_pow_right (by decide) hj) (by decide))
    refine s_newL fun D hD => ?_
    have bD : B3 D = none := g3.sub.free hD
    have g4 : Grow B3 H3 B3 (upd H3 D (.lst [])) := (Grow.refl g3.sub).put hD bD
    refine s_forq (wk_list (ev_var (I := dt (.list ((trk t i).map fun w => dPs (full w)))) r)) g4.sub fun B5 H5 g5 =>
      ⟨fun j σ Bj Hj => (∃ c d, σ = [some v1, some v2, some (.int t.l), some vb, some vn, some vf, some (.int (t.e + (i : Int))), some (.ref D), c, d]) ∧ Grow B3 H3 Bj Hj ∧ Bj D = none ∧
        ∃ vs, Hj D = some (.lst vs) ∧ RpA Bj vs ((((trk t i).take j).flatMap fun w => (nextL t w.2).map fun o => (full w, o)).map fun w => dPs (full w)), ?_, ?_, ?_⟩
    · have k5 := g5.kept bD (upd_same (H := H3) (a := D) (o := .lst []))
      exact ⟨⟨_, _, rfl⟩, g4.trans g5, k5.1, [], k5.2, .nil⟩
    · rintro j x _ B6 H6 B7 H7 lj ⟨⟨c, d, rfl⟩, gj, bj, vs, ej, rj⟩ s6 g7 px
      rw [List.length_map] at lj
      have px : Rp B7 x (((trk t i).map fun w => dPs (full w)).getD j .none) := px
      rw [getD_mapf lj] at px
      refine ⟨_, gt_name, ?_⟩
      generalize hw : (trk t i)[j] = w at px
      have wm := trk_may ok i (by omega) w (by rw [← hw]; exact List.getElem_mem lj)
      have px : Rp B7 x (.list ((full w).map dP)) := px
      have k7 := g7.kept bj ej
      have gj7 := gj.trans g7
      have h1 : Rp B7 v1 (dSea t.s) := Rp.mono (Sd.of gj7.base) h1
      have rn : Rp B7 vn (.list ((banL t).map dP)) := Rp.mono (Sd.of gj7.base) rn
      have E : EvD (tLc (iList K (tCall spNear [] C8.E0 (tCons (tVar 0) (tCons (tOp (rIxL K) (tVar 8) (tUn (rU fun i => .int (-i)) (tC (.int 1)))) tNil)))) (gName 9) (tTest (tOp (rNotInD K) (tVar 9) (tVar 4))) (tOp rCat (tVar 8) (tLst (tCons (tVar 9) tNil))) [9])
          [some v1, some v2, some (.int t.l), some vb, some vn, some vf, some (.int (t.e + (i : Int))), some (.ref D), some x, d] B7 (.list ((((nearP t.s w.2).filter fun o => !decide (o ∈ banL t)).map fun o => (full w, o)).map fun w => dPs (full w))) := by
        refine (ev_lcL (fFar t w) (wk_list (ds := (nearP t.s w.2).map dP) (ev_call (t.s, w.2) (ea_cons (ev_var h1) (ea1 (ev_ixL (ev_var (I := dt (.list ((full w).map dP))) px) (ev_un (g := fun i => -i) (ev_int (i := 1))) (full_last w)))) ok.sea)) ?_ fun d z B8 hd s8 pz => ?_).is (by rw [fm_far])
        · rw [List.length_map]
          exact Nat.le_trans (nearP_len _ _) (by decide)
        · obtain ⟨o, ho, rfl⟩ := List.mem_map.mp hd
          have pz : Rp B8 z (dP o) := pz
          have rn : Rp B8 vn (.list ((banL t).map dP)) := Rp.mono (Sd.of s8) rn
          have px : Rp B8 x (.list ((full w).map dP)) := Rp.mono (Sd.of s8) px
          refine ⟨_, !decide (o ∈ banL t), gt_name, rfl, et_test ((ev_op (ev_var (I := dt (dP o)) pz) (ev_var (I := dt (.list ((banL t).map dP))) rn) (rv_niD (sh_dP _) (sh_dPs _))).is (by rw [any_dP])), fun e => ?_, fun e => ?_⟩
          · exact if_pos (by simpa using e)
          · refine ⟨_, if_neg (by simpa using e), (ev_op (ev_var (I := dt (.list ((full w).map dP))) px) (ev_lst (ds := [dP o]) (ea1 (ev_var pz)) (by show 1 ≤ 100000; decide)) (rv_cat (ds := (full w).map dP) (es := [dP o]) ?_)).is ?_⟩
            · have := wm.2.2
              unfold full
              rw [List.length_map, List.length_append, List.length_singleton, List.length_singleton]
              omega
            · show PyData.list ((full w).map dP ++ [dP o]) = PyData.list ((full w ++ [o]).map dP)
              rw [List.map_append]
              rfl
      refine ⟨.ref D, rfl, .inl ⟨rfl, _, SqL.of k7.2⟩, E H7 g7.sub _ fun v B8 H8 g8 p8 => ?_⟩
      obtain ⟨b, zs, rfl, e8, r8⟩ := Rp.lst_eq p8
      have k8 := g8.kept k7.1 k7.2
      have gj8 := gj7.trans g8
      have rj8 := rj.mono (Sd.of (g7.base.trans g8.base))
      refine ⟨D, b, vs, zs, rfl, rfl, k8.2, g8.sub _ _ e8, ?_, ?_⟩
      · have h1 := rj8.length
        have h2 := r8.length
        have h3 := flat_len (f := fun w : Bw => (nextL t w.2).map fun o => (full w, o)) (c := 5) (fun w => by rw [List.length_map]; exact nextL_len t w.2) ((trk t i).take j)
        have h4 := hlen3 i (by omega)
        have h5 : ((trk t i).take j).length ≤ (trk t i).length := by
          rw [List.length_take]
          omega
        have h6 := nextL_len t w.2
        rw [List.length_map] at h1 h2
        rw [List.length_map] at h2
        have h7 : zs.length ≤ 5 := by
          rw [h2]
          exact h6
        exact Nat.le_trans (by omega : vs.length + zs.length ≤ 1000) (by decide)
      · refine ⟨B8, s6.trans (g7.base.trans g8.base), Same.put gj8.sub k8.1, ⟨_, _, rfl⟩, gj8.put hD k8.1, k8.1, vs ++ zs, upd_same, ?_⟩
        rw [nextL_flat t _ j lj, hw, List.map_append]
        exact rj8.app r8
    · rintro _ B6 H6 ⟨⟨c, d, rfl⟩, gj, bj, vs, ej, rj⟩ s6 s7
      rw [List.length_map, List.take_length] at rj
      have gc := gj.commit hD bj ej
      refine s_set1 (ev_var (I := dt (.list ((trk t (i + 1)).map fun w => dPs (full w)))) (.lst upd_same (rj.mono (Sd.of (same_new bj))))) gc.sub fun v B8 H8 g8 p8 => hN _ B8 H8 (gc.trans g8) ⟨v, _, _, _, _, rfl, p8⟩
  · subst e
    have l0 : (t.l - t.e).toNat = steps t := rfl
    rw [l0] at r
    have h2 : Rp B3 v2 (dTour t) := Rp.mono (Sd.of g3.base) h2
    refine s_ret ((ev_lcL (fEnd t) (wk_list (ev_var (I := dt (.list ((trk t (steps t)).map fun w => dPs (full w)))) r)) ?_ fun d z B4 hd s4 pz => ?_).is ?_) g3.sub fun v B4 H4 g4 p4 => q v B4 H4 ((g12.trans g3).trans g4) p4
    · rw [List.length_map]
      exact Nat.le_trans (trk_len t _) (Nat.le_trans (Nat.pow_le_pow_right (by decide) hst) (by decide))
    · obtain ⟨w, hw, rfl⟩ := List.mem_map.mp hd
      have h2 : Rp B4 v2 (dTour t) := Rp.mono (Sd.of s4) h2
      have pz : Rp B4 z (.list ((full w).map dP)) := pz
      refine ⟨_, decide (w.2.2 = t.b), gt_name, rfl, et_test ((ev_op (ev_slT (ev_ixL (ev_var (I := dt (.list ((full w).map dP))) pz) (ev_un (g := fun i => -i) (ev_int (i := 1))) (full_last w)) (eo_some (ev_int (i := 1))) eo_none fun h => absurd (show HT.sIx 3 0 (some 1) = 0 from h.1) (by decide)) (tour_b (ev_var (I := dt (dTour t)) h2)) (rv_eqD (d := dC w.2.2) (e := dC t.b) (sh_dC _) (sh_dC _))).is (congrArg PyData.bool (eqv_dC _ _))), fun e => ?_, fun e => ?_⟩
      · rw [fEnd_eq, if_neg (of_decide_eq_false e)]
      · exact ⟨_, by rw [fEnd_eq, if_pos (of_decide_eq_true e)], ev_var (I := dt (dPs (full w))) pz⟩
    · rw [fm_end, trk_end ok]
      rfl
end
end Sky

set_option Elab.async false
set_option linter.all false
set_option maxRecDepth 100000
set_option maxHeartbeats 4000000
/-! The bag: a list of five that its draws change; all others know only that it is one. Pure readings. -/
namespace Sky
open PySem PySem.Spec PyProof.Rows L2
def BagO (b p : Addr) : HO := .ext fun h => ∃ (c : Nat) (i j k l : Int) (t1 t2 t3 t4 : Tok), 0 ≤ i ∧ k.natAbs < 2 ^ 40 ∧ h.get? b = some { cls := .type "list", data := .seq #[.ref p, .int i t1, .int j t2, .int k t3, .int l t4] c }
def bgL (p : Addr) (i j k l : Int) : List V := [.ref p, .int i, .int j, .int k, .int l]
section
variable {X : Cx} {pins : List (Addr × Obj)} {σ : L2.St} {H : Hp} {s : Shared} {b p : Addr}
theorem bag_open (I : Inv X pins σ H s) (hb : H b = some (BagO b p)) : ∃ i j k l, 0 ≤ i ∧ k.natAbs < 2 ^ 40 ∧ Inv X pins σ (upd H b (.lst (bgL p i j k l))) s := by
  obtain ⟨⟨c, i, j, k, l, t1, t2, t3, t4, h1, h2, e⟩, _, _⟩ := (show ObjOk X.prog X.w H s.heap b (BagO b p) from I.hok b _ hb)
  refine ⟨i, j, k, l, h1, h2, I.write (t' := s.toks) (h' := s.heap) (by rw [hb]; trivial) (.inl rfl) (fun _ _ _ e => e) ⟨_, e⟩ ?_⟩
  exact ⟨by show 5 ≤ sizeLine; decide, _, c, .cons rfl (.cons ⟨_, rfl⟩ (.cons ⟨_, rfl⟩ (.cons ⟨_, rfl⟩ (.cons ⟨_, rfl⟩ .nil)))), e⟩
theorem bag_close (I : Inv X pins σ H s) {i j k l : Int} (hb : H b = some (.lst (bgL p i j k l))) (h1 : 0 ≤ i) (h2 : k.natAbs < 2 ^ 40) : Inv X pins σ (upd H b (BagO b p)) s := by
  obtain ⟨z, its, c, r, e⟩ := (show ObjOk X.prog X.w H s.heap b (.lst (bgL p i j k l)) from I.hok b _ hb)
  cases r with
  | cons r0 r => cases r with
  | cons r1 r => cases r with
  | cons r2 r => cases r with
  | cons r3 r => cases r with
  | cons r4 r =>
    cases r
    have r0 := r0
    obtain rfl := (show _ = Value.ref p from r0)
    obtain ⟨t1, rfl⟩ := r1
    obtain ⟨t2, rfl⟩ := r2
    obtain ⟨t3, rfl⟩ := r3
    obtain ⟨t4, rfl⟩ := r4
    refine I.write (t' := s.toks) (h' := s.heap) (by rw [hb]; trivial) (.inl rfl) (fun _ _ _ e => e) ⟨_, e⟩ ?_
    refine ⟨⟨c, i, j, k, l, t1, t2, t3, t4, h1, h2, e⟩, ⟨_, e⟩, fun a1 a2 ⟨c, i, j, k, l, t1, t2, t3, t4, h1, h2, e⟩ q => ⟨c, i, j, k, l, t1, t2, t3, t4, h1, h2, q _ e⟩⟩
/-- other ends -/
theorem pss_imp {body : List Stmt} {t u : TS} (h : PSs X body t) (k : ∀ D σ H, u D σ H → (∀ pins s, Inv X pins σ H s → ∃ D' H', Inv X pins σ H' s ∧ t D' σ H' ∧ ∀ f s', SP X pins D' f s' → SP X pins D f s')) : PSs X body u :=
  ⟨fun pins s σ H D I q => by
    obtain ⟨D', H', I', q', z⟩ := k D σ H q pins s I
    exact thn (h.run pins s σ H' D' I' q') fun f s' => z f s'⟩
/-- within: the bag is open -/
def tBag (t : TS) : TS := fun D σ H => ∃ b p, H b = some (BagO b p) ∧ ∀ i j k l, 0 ≤ i → k.natAbs < 2 ^ 40 → t { nx := fun _ _ => False, rt := fun v H' => ∃ i j k l, 0 ≤ i ∧ k.natAbs < 2 ^ 40 ∧ H' b = some (.lst (bgL p i j k l)) ∧ D.rt v (upd H' b (BagO b p)) } σ (upd H b (.lst (bgL p i j k l)))
theorem pss_bag {body : List Stmt} {t : TS} (h : PSs X body t) : PSs X body (tBag t) := pss_imp h fun D σ H ⟨b, p, hb, q⟩ pins s I => by
  obtain ⟨i, j, k, l, h1, h2, I'⟩ := bag_open I hb
  refine ⟨_, _, I', q i j k l h1 h2, fun f s' z => ?_⟩
  cases f with
  | next => obtain ⟨_, _, _, z⟩ := z; exact z.elim
  | brk => obtain ⟨_, _, _, z⟩ := z; exact z.elim
  | cont => obtain ⟨_, _, _, z⟩ := z; exact z.elim
  | ret u =>
    obtain ⟨v, σ', H', I2, rv, i, j, k, l, h1, h2, e, z⟩ := z
    exact ⟨v, σ', _, bag_close I2 e h1 h2, rv, z⟩
/-- a bag is made -/
def tBagN (t : TS) : TS := fun D σ H => t { D with rt := fun v H' => ∃ b p i j k l, 0 ≤ i ∧ k.natAbs < 2 ^ 40 ∧ H' b = some (.lst (bgL p i j k l)) ∧ D.rt v (upd H' b (BagO b p)) } σ H
theorem pss_bagN {body : List Stmt} {t : TS} (h : PSs X body t) : PSs X body (tBagN t) := pss_imp h fun D σ H q pins s I => by
  refine ⟨_, _, I, q, fun f s' z => ?_⟩
  cases f with
  | next => exact z
  | brk => exact z
  | cont => exact z
  | ret u =>
    obtain ⟨v, σ', H', I2, rv, b, p, i, j, k, l, h1, h2, e, z⟩ := z
    exact ⟨v, σ', _, bag_close I2 e h1 h2, rv, z⟩
end
/-! ### pure readings -/
section
variable {K : PySem.W.Frag} {σ : L2.St} {H : Hp} {D : Ends} {te ta tb : TE} {tr : TA} {t u : TT} {tu tv tw : TS} {x y v w : V} {i j : Int} {b c : Bool}
def Pu (te : TE) (σ : L2.St) (H : Hp) (v : V) : Prop := ∀ Q : VK, Q v H → te σ H Q
def PuT (t : TT) (σ : L2.St) (H : Hp) (b : Bool) : Prop := ∀ Q : Bool → Hp → Prop, Q b H → t σ H Q
theorem pu_var {n : Nat} (h : σ[n]? = some (some v) := by rfl) : Pu (tVar n) σ H v := fun Q q => ⟨v, h, q⟩
theorem pu_c : Pu (tC v) σ H v := fun Q q => q
theorem pu_op {r : R2} (ha : Pu ta σ H x) (hb : Pu tb σ H y) (hr : ∀ Q : VK, Q v H → r x y H Q) : Pu (tOp r ta tb) σ H v := fun Q q => ha _ (hb _ (hr Q q))
theorem pu_I0 {g : Int → Int → V} (ha : Pu ta σ H (.int i)) (hb : Pu tb σ H (.int j)) : Pu (tOp (rI0 g) ta tb) σ H (g i j) := pu_op ha hb fun Q q => ⟨i, j, rfl, rfl, q⟩
theorem pu_I {C : Int → Int → Prop} {g : Int → Int → V} (ha : Pu ta σ H (.int i)) (hb : Pu tb σ H (.int j)) (hc : C i j) : Pu (tOp (rI C g) ta tb) σ H (g i j) := pu_op ha hb fun Q q => ⟨i, j, rfl, rfl, hc, q⟩
theorem pu_ix {a : Addr} {xs : List V} (ha : Pu ta σ H (.ref a)) (hb : Pu tb σ H (.int i)) (e : H a = some (.lst xs)) (h : atI xs i = some v) : Pu (tOp (rIxL K) ta tb) σ H v := pu_op ha hb fun Q q => ⟨a, xs, i, v, rfl, rfl, SqL.of e, h, q⟩
theorem pu_len {a : Addr} {xs : List V} (ha : Pu ta σ H (.ref a)) (e : H a = some (.lst xs)) : Pu (tCB (rLn K) (tCons ta tNil)) σ H (.int xs.length) := fun Q q => ha _ ⟨a, xs, rfl, .inl (SqL.of e), q⟩
theorem pu_int (ha : Pu ta σ H (.int i)) : Pu (tCB (fun xs H Q => (∃ i, xs = [.int i] ∧ Q (.int i) H) ∨ ∃ k, xs = [.bl k] ∧ Q (.int (if k then 1 else 0)) H) (tCons ta tNil)) σ H (.int i) := fun Q q => ha _ (.inl ⟨i, rfl, q⟩)
theorem put_test (h : Pu te σ H (.bl b)) : PuT (tTest te) σ H b := fun Q q => h _ ⟨b, rfl, q⟩
theorem put_and (h1 : PuT t σ H b) (h2 : b = true → PuT u σ H c) : PuT (tAnd t u) σ H (b && c) := fun Q q => h1 _ (by
  cases b with
  | true =>
    rw [if_pos rfl]
    exact h2 rfl Q q
  | false =>
    rw [if_neg Bool.false_ne_true]
    exact q)
theorem p_set {n : Nat} (h : Pu te σ H v) (k : tu D (σ.set n (some v)) H) : tSeq (tAsg te (gName n)) tu D σ H := h _ k
theorem p_if (h : PuT t σ H b) (h1 : b = true → tSeq tu tv D σ H) (h2 : b = false → tv D σ H) : tSeq (tIfS t tu tNext) tv D σ H := h _ (by
  cases b with
  | true =>
    rw [if_pos rfl]
    exact h1 rfl
  | false =>
    rw [if_neg Bool.false_ne_true]
    exact h2 rfl)
theorem p_ifJ (R : L2.St → Hp → Prop) (h : PuT t σ H b) (h1 : b = true → ∀ N : L2.St → Hp → Prop, (∀ σ' H', R σ' H' → N σ' H') → tu { D with nx := N } σ H) (h2 : b = false → R σ H) (h3 : ∀ σ' H', R σ' H' → tv D σ' H') : tSeq (tIfS t tu tNext) tv D σ H := h _ (by
  cases b with
  | true =>
    rw [if_pos rfl]
    exact h1 rfl _ h3
  | false =>
    rw [if_neg Bool.false_ne_true]
    exact h3 _ _ (h2 rfl))
theorem dec_int' : decide (V.int i = V.int j) = decide (i = j) := by
  by_cases h : i = j
  · simp [h]
  · simp [h]
theorem pu_eqI (ha : Pu ta σ H (.int i)) (hb : Pu tb σ H (.int j)) : Pu (tOp rEq ta tb) σ H (.bl (decide (i = j))) := pu_op ha hb fun Q q => ⟨rfl, by rw [dec_int']; exact q⟩
theorem p_ifE (h : PuT t σ H b) (h1 : b = true → tu D σ H) (h2 : b = false → tw D σ H) : tIfS t tu tw D σ H := h _ (by
  cases b with
  | true =>
    rw [if_pos rfl]
    exact h1 rfl
  | false =>
    rw [if_neg Bool.false_ne_true]
    exact h2 rfl)
theorem p_ret (h : Pu te σ H v) (k : D.rt v H) : tRet te D σ H := h _ k
theorem p_retq (h : Pu te σ H v) (k : D.rt v H) : tSeq (tRet te) tu D σ H := h _ k
theorem p_put {a : Addr} {xs : List V} {n : Nat} (h : Pu te σ H v) (ho : Pu ta σ H (.ref a)) (hi : Pu tb σ H (.int i)) (e : H a = some (.lst xs)) (hx : ixN xs.length i = some n) (k : tu D σ (upd H a (.lst (xs.set n v)))) : tSeq (tAsg te (gSub ta tb rSetL)) tu D σ H :=
  h _ (ho _ (hi _ ⟨a, xs, i, n, rfl, rfl, e, hx, k⟩))
theorem p_put1 {a : Addr} {xs : List V} {n : Nat} (h : Pu te σ H v) (ho : Pu ta σ H (.ref a)) (hi : Pu tb σ H (.int i)) (e : H a = some (.lst xs)) (hx : ixN xs.length i = some n) (k : D.nx σ (upd H a (.lst (xs.set n v)))) : tAsg te (gSub ta tb rSetL) D σ H :=
  h _ (ho _ (hi _ ⟨a, xs, i, n, rfl, rfl, e, hx, k⟩))
end
/-! ### the item -/
def bagI : Item := ⟨fun v H => ∃ (b p : Addr) (ns : List Int), v = .ref b ∧ H b = some (BagO b p) ∧ H p = some (.lst (ns.map V.int)), fun s ⟨b, p, ns, e, h1, h2⟩ => ⟨b, p, ns, e, s _ _ h1, s _ _ h2⟩⟩
abbrev spPull : Sp := SpF (fun m : Int => [bagI, dt (.int m)]) (fun m => 0 < m ∧ m ≤ 1000) fun m => exI (fun k : Int => dt (.int k)) fun k => 0 ≤ k ∧ k < m
end Sky

set_option Elab.async false
set_option linter.all false
set_option maxRecDepth 100000
set_option maxHeartbeats 4000000
/-! The bag's defs. -/
namespace Sky
open PySem PySem.Spec PyProof.Rows L2
def scrI (K : PySem.W.Frag) : Item := ⟨fun v H => ∃ (a : Addr) (ns : List Int), v = .ref a ∧ SqL K H a (ns.map V.int), fun s ⟨a, ns, e, h⟩ => ⟨a, ns, e, by
  rcases h with (h | ⟨o, h⟩) | h
  · exact .inl (.inl (s _ _ h))
  · exact .inl (.inr ⟨o, s _ _ h⟩)
  · exact .inr h⟩⟩
section
variable {P : Program} {w : World} {K : PySem.W.Frag} {mg : Str → Option Value} {base : Heap} {W : Wd}
theorem rpa_of_ints {A : Hp} : ∀ ns : List Int, RpA A (ns.map V.int) (ns.map PyData.int)
  | [] => .nil
  | n :: ns => .cons (.int n) (rpa_of_ints ns)
theorem cut_ints (ns : List Int) (h : 0 ≤ (63 : Int)) : ∃ ms : List Int, cutV (ns.map V.int) none (some 63) = ms.map V.int ∧ ms.length ≤ 63 := by
  refine ⟨ns.take (HT.sIx ns.length ns.length (some 63)), ?_, ?_⟩
  · unfold cutV
    rw [List.length_map]
    show ((ns.map V.int).drop 0).take (HT.sIx ns.length ns.length (some 63) - 0) = _
    rw [List.drop_zero, Nat.sub_zero, List.map_take]
  · rw [List.length_take]
    have : HT.sIx ns.length ns.length (some 63) ≤ 63 := by
      unfold HT.sIx
      simp
      omega
    omega
theorem ev_slS {σ : L2.St} {B : Hp} {te : TE} (h : Ev te σ B (scrI K)) : Ev (tSl (rSlL K) te tNoPart (tPart (tC (.int 63)))) σ B (exI (fun ms : List Int => dt (.list (ms.map .int))) fun ms => ms.length ≤ 63) := fun H1 s Q q =>
  h H1 s _ fun v B2 H2 g2 ⟨a, ns, e1, e2⟩ => by
    subst e1
    obtain ⟨ms, h1, h2⟩ := cut_ints ns (by decide)
    have e3 : SqL K H2 a (ns.map V.int) := by
      rcases e2 with (h | ⟨o, h⟩) | h
      · exact .inl (.inl (g2.sub _ _ h))
      · exact .inl (.inr ⟨o, g2.sub _ _ h⟩)
      · exact .inr h
    refine ⟨63, rfl, a, _, rfl, e3, fun p hp => q _ _ _ (g2.trans (Grow.alloc g2.sub hp)) ⟨ms, h2, .lst upd_same ?_⟩⟩
    rw [h1]
    exact rpa_of_ints ms
theorem ev_int1 {σ : L2.St} {B : Hp} {te : TE} {i : Int} (h : EvD te σ B (.int i)) : EvD (tCB (fun xs H Q => (∃ i, xs = [V.int i] ∧ Q (.int i) H) ∨ ∃ k, xs = [V.bl k] ∧ Q (.int (if k then 1 else 0)) H) (tCons te tNil)) σ B (.int i) := fun H1 s Q q =>
  h H1 s _ fun v B2 H2 g2 p2 => by
    obtain rfl := Rp.int_eq p2
    exact .inl ⟨i, rfl, q _ B2 H2 g2 (.int i)⟩
theorem ev_lcE {ι : Type} {σ : L2.St} {B : Hp} {te tel : TE} {g : TG} {tt : TT} {vs : List Nat} {J : ι → Item} {pre : ι → Prop} {I : Item} (h : Ev te σ B (exI J pre)) (k : ∀ i v B1, pre i → Same B B1 → (J i).P v B1 → Ev (tLc (iList K (tC v)) g tt tel vs) σ B1 I) : Ev (tLc (iList K te) g tt tel vs) σ B I := fun H1 s Q q =>
  h H1 s _ fun v B2 H2 g2 ⟨i, hi, p⟩ => k i v B2 hi g2.base p H2 g2.sub _ fun w B3 H3 g3 p3 => q w B3 H3 (g2.trans g3) p3
abbrev spBag (K : PySem.W.Frag) : Sp := SpF (fun _ : Unit => [scrI K]) (fun _ => True) fun _ => bagI
theorem sc_law_bag : FnScope ["_law_script", "_law_pieces", "_law_seed", "_law_piece"] ["_law_script"] (defScope s__law_bag) := C8.fnScope_by (by decide +kernel)
theorem ok_law_bag (T : Bt mg) (F : Dfn K mg "_law_bag" s__law_bag ["_law_script"]) : C8.Cal P w K mg base 1 "_law_bag" (spBag K) [] := by
  have sc := sc_law_bag
  refine F.cal sc (SpF.len fun _ => rfl) fun f cdv A outer s H vs Q E hr hsp => ?_
  refine ⟨_, (pss_bagN (pss_cons (ps_setLc (i := 1) (own := [("_law_piece", 3)]) rfl sc.nd rfl rfl (sw_true rfl rfl rfl (by decide +kernel)) (pi_list (pe_slice sl_list (pv 0) po_none (po_some pe_int))) (blkOk_by (own := [("_law_piece", 3)]) (N := ["_law_script", "_law_pieces", "_law_seed", "_law_piece"]) (sc := defScope s__law_bag) (by decide +kernel)) (fun _ _ _ _ _ => (pg_name (i := 3) sc.nd rfl (by first | exact Or.inl rfl | exact Or.inr rfl))) (fun _ _ _ _ _ => pts_nil) (fun _ _ _ _ _ => (pe_callTy call_int1 (by rfl) T.n_int bb_int (pa_cons (pv 3) pa_nil))))
    (pss_cons (ps_set (i := 2) sc.nd rfl (by first | exact Or.inl rfl | exact Or.inr rfl) (pe_op op_add pe_int (pe_op op_mul pe_int (pe_callB call_len_seq (by rfl) T.n_len bb_len (pa_cons (pv 1) pa_nil)))))
    (pss_cons (ps_for PassesOwn.never rfl (pi_list (pv 1)) (pg_name (i := 3) sc.nd rfl (by first | exact Or.inl rfl | exact Or.inr rfl))
      (pss_one (ps_set (i := 2) sc.nd rfl (by first | exact Or.inl rfl | exact Or.inr rfl) (pe_op op_modN (pe_callTy call_int1 (by rfl) T.n_int bb_int (pa_cons (pe_op op_add (pe_op op_add (pe_op op_mul (pv 2) pe_int) (pe_op op_modN (pe_callTy call_int1 (by rfl) T.n_int bb_int (pa_cons (pv 3) pa_nil)) pe_int)) pe_int) pa_nil)) pe_int))))
    (pss_one (ps_ret (pe_lst (pa_cons (pv 1) (pa_cons pe_int (pa_cons pe_int (pa_cons (pv 2) (pa_cons pe_int pa_nil)))))))))))), ?_⟩
  obtain ⟨x, B, hp, s0, ha, q⟩ := hsp
  dsimp only at hp ha q
  obtain ⟨v1, rfl, h1⟩ := ita1 ha
  refine s_set (I := exI (fun ms : List Int => dt (.list (ms.map .int))) fun ms => ms.length ≤ 63) (ev_lcE (ev_slS (ev_var h1)) fun ms v B1 hm s1 pv => ?_) s0 fun vp B1 H1 g1 p1 => ?_
  · refine Ev.imp (I := dt (.list (ms.map .int))) ((ev_lcL (fun d => some d) (wk_list (ds := ms.map .int) (ev_c pv)) (by rw [List.length_map]; omega) fun d y B2 hd s2 py => ?_).is ?_) fun v A r => ⟨ms, hm, r⟩
    · obtain ⟨n, hn, rfl⟩ := List.mem_map.mp hd
      exact ⟨_, true, gt_name, rfl, et_yes, (fun e => nomatch e), fun _ => ⟨_, rfl, ev_int1 (ev_var (I := dt (.int n)) py)⟩⟩
    · rw [List.filterMap_some]
  obtain ⟨ms, hm, p1⟩ := p1
  have p1 : Rp B1 vp (.list (ms.map .int)) := p1
  refine s_set (ev_i (g := fun i j => i + j) (ev_int (i := 12031)) (ev_ic (g := fun i j => i * j) (ev_int (i := 71)) (ev_lenL (ev_var (I := dt (.list (ms.map .int))) p1)) (.inl ⟨by decide, by decide⟩))) g1.sub fun vs B2 H2 g2 p2 => ?_
  obtain rfl := Rp.int_eq p2
  have g12 := g1.trans g2
  have p1 : Rp B2 vp (.list (ms.map .int)) := Rp.mono (Sd.of g2.base) p1
  refine s_forG (wk_list (ds := ms.map .int) (ev_var (I := dt (.list (ms.map .int))) p1)) g2.sub (fun i σ B => ∃ (k : Int) (y : Option V), σ = [some v1, some vp, some (.int k), y] ∧ k.natAbs < 2 ^ 40) (fun i σ B1 B2 s p => p) (fun B0 s => ⟨_, _, rfl, by rw [List.length_map]; omega⟩)
    (fun i y σ1 B3 H3 l g3 ⟨k, z, e, hk⟩ py => ?_) fun σ1 B3 H3 g3 ⟨k, z, e, hk⟩ => ?_
  · subst e
    rw [List.length_map] at l
    have py : Rp B3 y ((ms.map PyData.int).getD i .none) := py
    rw [getD_mapf l] at py
    refine ⟨_, gt_name, fun N hN => ?_⟩
    refine s_set1 (ev_ic (g := fun i j => i.fmod j) (ev_int1 (ev_i (g := fun i j => i + j) (ev_i (g := fun i j => i + j) (ev_ic (g := fun i j => i * j) (ev_var (I := dt (.int k)) (.int k)) (ev_int (i := 48947)) (.inr ⟨by decide, by decide⟩)) (ev_ic (g := fun i j => i.fmod j) (ev_int1 (ev_var (I := dt (.int ms[i])) py)) (ev_int (i := 2147483563)) (by decide))) (ev_int (i := 37)))) (ev_int (i := 2147483579)) (by decide)) g3.sub fun v B4 H4 g4 p4 => ?_
    obtain rfl := Rp.int_eq p4
    refine hN _ B4 H4 g4 ⟨_, _, rfl, ?_⟩
    generalize (k * 48947 + ms[i].fmod 2147483563 + 37) = n
    have h1 := Int.fmod_nonneg_of_pos n (b := 2147483579) (by decide)
    have h2 := Int.fmod_lt_of_pos n (b := 2147483579) (by decide)
    omega
  · subst e
    have g13 := g12.trans g3
    have p1 : Rp B3 vp (.list (ms.map .int)) := Rp.mono (Sd.of g3.base) p1
    obtain ⟨p, xs, rfl, e1, r⟩ := Rp.lst_eq p1
    rw [rpa_ints2 r] at e1
    refine ⟨.ref p, rfl, .int k, rfl, by show 5 ≤ sizeLine; decide, fun b hb => ⟨b, p, 0, 0, k, 0, by decide, hk, upd_same, ?_⟩⟩
    rw [upd_upd]
    exact q _ _ _ (g13.trans (Grow.alloc g3.sub hb)) ⟨b, p, ms, rfl, upd_same, same_new (g3.sub.free hb) _ _ e1⟩
theorem sc_law_pull : FnScope ["_law_bag_here", "_law_many", "_law_piece", "_law_digit", "_law_seed"] ["_law_bag_here", "_law_many"] (defScope s__law_pull) := C8.fnScope_by (by decide +kernel)
theorem ok_law_pull (T : Bt mg) (F : Dfn K mg "_law_pull" s__law_pull ["_law_bag_here", "_law_many"]) : C8.Cal P w K mg base 1 "_law_pull" spPull [] := by
  have sc := sc_law_pull
  refine F.cal sc (SpF.len fun _ => rfl) fun f cdv A outer s H vs Q E hr hsp => ?_
  refine ⟨_, (pss_bag (pss_cons (ps_if (PW.pt (pw_and (pt_cmpR op_eq (pe_ix ix_list (pv 0) pe_int (fun _ _ => rfl)) pe_int (nomark _)) (pw_and1 (pt_cmpR op_lt (pe_ix ix_list (pv 0) pe_int (fun _ _ => rfl)) (pe_callB call_len_seq (by rfl) T.n_len bb_len (pa_cons (pe_ix ix_list (pv 0) pe_int (fun _ _ => rfl)) pa_nil)) (nomark _))))) (pss_cons (ps_set (i := 2) sc.nd rfl (by first | exact Or.inl rfl | exact Or.inr rfl) (pe_ix ix_list (pe_ix ix_list (pv 0) pe_int (fun _ _ => rfl)) (pe_ix ix_list (pv 0) pe_int (fun _ _ => rfl)) (fun _ _ => rfl)))
      (pss_cons (ps_asg (pe_op op_add (pe_ix ix_list (pv 0) pe_int (fun _ _ => rfl)) pe_int) (pg_sub (pv 0) pe_int set_list))
      (pss_one (ps_if (pt_cmpR op_ge (pv 2) (pe_op op_pow pe_int pe_int) (nomark _)) (pss_one (ps_asg (pv 2) (pg_sub (pv 0) pe_int set_list))) (pss_one (ps_asg (pe_op op_modN (pe_callTy call_int1 (by rfl) T.n_int bb_int (pa_cons (pe_op op_add (pe_op op_add (pe_op op_mul (pe_ix ix_list (pv 0) pe_int (fun _ _ => rfl)) pe_int) (pe_op op_mul (pe_op op_modN (pe_callTy call_int1 (by rfl) T.n_int bb_int (pa_cons (pv 2) pa_nil)) pe_int) pe_int)) pe_int) pa_nil)) pe_int) (pg_sub (pv 0) pe_int set_list))))))) pss_nil)
    (pss_cons (ps_if (pt_cmpR op_gt (pe_ix ix_list (pv 0) pe_int (fun _ _ => rfl)) pe_int (nomark _)) (pss_cons (ps_set (i := 3) sc.nd rfl (by first | exact Or.inl rfl | exact Or.inr rfl) (pe_op op_modN (pe_callTy call_int1 (by rfl) T.n_int bb_int (pa_cons (pe_ix ix_list (pv 0) pe_int (fun _ _ => rfl)) pa_nil)) (pv 1)))
      (pss_cons (ps_asg (pe_op op_fdivN (pe_callTy call_int1 (by rfl) T.n_int bb_int (pa_cons (pe_ix ix_list (pv 0) pe_int (fun _ _ => rfl)) pa_nil)) (pv 1)) (pg_sub (pv 0) pe_int set_list))
      (pss_one (ps_ret (pv 3))))) pss_nil)
    (pss_cons (ps_asg (pe_op op_add (pe_ix ix_list (pv 0) pe_int (fun _ _ => rfl)) pe_int) (pg_sub (pv 0) pe_int set_list))
    (pss_cons (ps_set (i := 4) sc.nd rfl (by first | exact Or.inl rfl | exact Or.inr rfl) (pe_ix ix_list (pv 0) pe_int (fun _ _ => rfl)))
    (pss_cons (ps_asg (pe_op op_modN (pe_callTy call_int1 (by rfl) T.n_int bb_int (pa_cons (pe_op op_add (pe_op op_add (pe_op op_add (pe_op op_pow (pv 4) pe_int) (pe_op op_mul (pv 4) pe_int)) (pe_op op_mul (pe_ix ix_list (pv 0) pe_int (fun _ _ => rfl)) pe_int)) pe_int) pa_nil)) pe_int) (pg_sub (pv 0) pe_int set_list))
    (pss_one (ps_ret (pe_op op_modN (pe_callTy call_int1 (by rfl) T.n_int bb_int (pa_cons (pe_op op_add (pe_op op_fdivN (pe_ix ix_list (pv 0) pe_int (fun _ _ => rfl)) pe_int) (pe_op op_mul (pe_op op_modN (pe_callTy call_int1 (by rfl) T.n_int bb_int (pa_cons (pe_ix ix_list (pv 0) pe_int (fun _ _ => rfl)) pa_nil)) pe_int) pe_int)) pa_nil)) (pv 1)))))))))), ?_⟩
  obtain ⟨m, B, hp, s0, ha, q⟩ := hsp
  dsimp only at hp ha q
  obtain ⟨v1, v2, rfl, ⟨b, p, ns, rfl, e1, e2⟩, h2⟩ := ita2 ha
  obtain rfl := Rp.int_eq h2
  have hb := s0 _ _ e1
  have hp0 := s0 _ _ e2
  have hpb : p ≠ b := fun z => by
    rw [z, e1] at e2
    cases e2
  have hm := hp
  have hp : ∀ {X : HO}, upd H b X p = some (.lst (ns.map V.int)) := fun {X} => by
    rw [upd_ne hpb]
    exact hp0
  refine ⟨b, p, hb, fun i j k l h1 h2 => ?_⟩
  have done : ∀ (v : V) (xs : List V) (i j k l : Int), 0 ≤ i → k.natAbs < 2 ^ 40 → (∃ n, v = .int n ∧ 0 ≤ n ∧ n < m) → xs = bgL p i j k l → ∃ i j k l, 0 ≤ i ∧ k.natAbs < 2 ^ 40 ∧ (upd H b (.lst xs)) b = some (.lst (bgL p i j k l)) ∧ Q v (upd (upd H b (.lst xs)) b (BagO b p)) := fun v xs i j k l h1 h2 ⟨n, e, n0, n1⟩ hx => by
    refine ⟨i, j, k, l, h1, h2, by rw [upd_same, hx], ?_⟩
    have e3 : upd (upd H b (.lst xs)) b (BagO b p) = H := by
      rw [upd_upd]
      funext c
      by_cases hc : c = b
      · rw [hc, upd_same, hb]
      · rw [upd_ne hc]
    rw [e3, e]
    exact q _ B H (Grow.refl s0) ⟨n, ⟨n0, n1⟩, .int n⟩
  have md : ∀ n : Int, 0 ≤ n.fmod m ∧ n.fmod m < m := fun n => ⟨Int.fmod_nonneg_of_pos _ hm.1, Int.fmod_lt_of_pos _ hm.1⟩
  have md2 : ∀ n : Int, (n.fmod 2147483579).natAbs < 2 ^ 40 := fun n => by
    have h1 := Int.fmod_nonneg_of_pos n (b := 2147483579) (by decide)
    have h2 := Int.fmod_lt_of_pos n (b := 2147483579) (by decide)
    omega
  -- the list's places
  have at0 : ∀ {σ : L2.St} {i j k l : Int}, σ[0]? = some (some (.ref b)) → Pu (tOp (rIxL K) (tVar 0) (tC (.int 0))) σ (upd H b (.lst (bgL p i j k l))) (.ref p) := fun hs => pu_ix (pu_var hs) pu_c upd_same rfl
  have at1 : ∀ {σ : L2.St} {i j k l : Int}, σ[0]? = some (some (.ref b)) → Pu (tOp (rIxL K) (tVar 0) (tC (.int 1))) σ (upd H b (.lst (bgL p i j k l))) (.int i) := fun hs => pu_ix (pu_var hs) pu_c upd_same rfl
  have at2 : ∀ {σ : L2.St} {i j k l : Int}, σ[0]? = some (some (.ref b)) → Pu (tOp (rIxL K) (tVar 0) (tC (.int 2))) σ (upd H b (.lst (bgL p i j k l))) (.int j) := fun hs => pu_ix (pu_var hs) pu_c upd_same rfl
  have at3 : ∀ {σ : L2.St} {i j k l : Int}, σ[0]? = some (some (.ref b)) → Pu (tOp (rIxL K) (tVar 0) (tC (.int 3))) σ (upd H b (.lst (bgL p i j k l))) (.int k) := fun hs => pu_ix (pu_var hs) pu_c upd_same rfl
  have at4 : ∀ {σ : L2.St} {i j k l : Int}, σ[0]? = some (some (.ref b)) → Pu (tOp (rIxL K) (tVar 0) (tC (.int 4))) σ (upd H b (.lst (bgL p i j k l))) (.int l) := fun hs => pu_ix (pu_var hs) pu_c upd_same rfl
  have cm : ∀ (i j : Int), -(2 ^ 64) < j → j < 2 ^ 64 → CMul i j := fun i j h1 h2 => .inr ⟨h1, h2⟩
  refine p_ifJ (fun σ' H' => ∃ i j k l u, 0 ≤ i ∧ k.natAbs < 2 ^ 40 ∧ σ' = [some (.ref b), some (.int m), u, none, none] ∧ H' = upd H b (.lst (bgL p i j k l))) (b := decide (j = 0) && decide (i < ns.length)) (put_and (put_test (pu_eqI (at2 rfl) pu_c)) fun _ => put_test ?_) (fun e N hN => ?_) (fun e => ⟨i, j, k, l, none, h1, h2, rfl, rfl⟩) ?_
  · have := pu_len (K := K) (at0 (σ := [some (.ref b), some (.int m), none, none, none]) (i := i) (j := j) (k := k) (l := l) rfl) hp
    rw [List.length_map] at this
    exact pu_I0 (g := fun i j => .bl (decide (i < j))) (at1 rfl) this
  · rw [Bool.and_eq_true, decide_eq_true_eq, decide_eq_true_eq] at e
    obtain ⟨rfl, hi⟩ := e
    obtain ⟨n, rfl⟩ := Int.eq_ofNat_of_zero_le h1
    have hn : n < ns.length := by omega
    refine p_set (v := .int ns[n]) (pu_ix (at0 rfl) (at1 rfl) hp (atI_nat (by rw [List.getElem?_map, List.getElem?_eq_getElem hn]; rfl))) ?_
    refine p_put (v := .int (n + 1)) (n := 1) (pu_I0 (g := fun i j => .int (i + j)) (at1 rfl) pu_c) (pu_var rfl) pu_c upd_same rfl ?_
    rw [upd_upd]
    refine p_ifE (b := decide ((10 : Int) ^ 18 ≤ ns[n])) (put_test (pu_I0 (g := fun i j => .bl (decide (j ≤ i))) (pu_var rfl) (pu_I (g := fun i j => .int (i ^ j.toNat)) pu_c pu_c ⟨by decide, by decide, by decide⟩))) (fun _ => ?_) fun _ => ?_
    · refine p_put1 (v := .int ns[n]) (n := 2) (pu_var rfl) (pu_var rfl) pu_c upd_same rfl ?_
      rw [upd_upd]
      exact hN _ _ ⟨_, _, _, _, _, by omega, h2, rfl, rfl⟩
    · refine p_put1 (v := .int (((k * 39901 + (ns[n].fmod 2147483497) * 40361 + 73)).fmod 2147483579)) (n := 3) (pu_I (g := fun i j => .int (i.fmod j)) (pu_int (pu_I0 (g := fun i j => .int (i + j)) (pu_I0 (g := fun i j => .int (i + j)) (pu_I (g := fun i j => .int (i * j)) (at3 (i := (n : Int) + 1) rfl) pu_c (cm _ _ (by decide) (by decide))) (pu_I (g := fun i j => .int (i * j)) (pu_I (g := fun i j => .int (i.fmod j)) (pu_int (pu_var rfl)) pu_c (by decide)) pu_c (cm _ _ (by decide) (by decide)))) pu_c)) pu_c (by decide)) (pu_var rfl) pu_c upd_same rfl ?_
      rw [upd_upd]
      exact hN _ _ ⟨_, _, _, _, _, by omega, md2 _, rfl, rfl⟩
  · rintro _ _ ⟨i, j, k, l, u, h1, h2, rfl, rfl⟩
    refine p_if (b := decide ((0 : Int) < j)) (put_test (pu_I0 (g := fun i j => .bl (decide (j < i))) (at2 rfl) pu_c)) (fun _ => ?_) fun _ => ?_
    · refine p_set (v := .int (j.fmod m)) (pu_I (g := fun i j => .int (i.fmod j)) (pu_int (at2 rfl)) (pu_var rfl) (by omega)) ?_
      refine p_put (v := .int (j.fdiv m)) (n := 2) (pu_I (g := fun i j => .int (i.fdiv j)) (pu_int (at2 rfl)) (pu_var rfl) ⟨by omega, by omega⟩) (pu_var rfl) pu_c upd_same rfl ?_
      rw [upd_upd]
      exact p_retq (pu_var rfl) (done _ _ i (j.fdiv m) k l h1 h2 ⟨_, rfl, md _⟩ rfl)
    · refine p_put (v := .int (l + 1)) (n := 4) (pu_I0 (g := fun i j => .int (i + j)) (at4 rfl) pu_c) (pu_var rfl) pu_c upd_same rfl ?_
      rw [upd_upd]
      refine p_set (v := .int k) (at3 (i := i) (j := j) (l := l + 1) rfl) ?_
      refine p_put (v := .int ((k ^ 3 + k * 40111 + (l + 1) * 1299583 + 61027).fmod 2147483579)) (n := 3) (pu_I (g := fun i j => .int (i.fmod j)) (pu_int (pu_I0 (g := fun i j => .int (i + j)) (pu_I0 (g := fun i j => .int (i + j)) (pu_I0 (g := fun i j => .int (i + j)) (pu_I (g := fun i j => .int (i ^ j.toNat)) (pu_var rfl) pu_c ⟨by decide, by decide, by omega⟩) (pu_I (g := fun i j => .int (i * j)) (pu_var rfl) pu_c (cm _ _ (by decide) (by decide)))) (pu_I (g := fun i j => .int (i * j)) (at4 (i := i) (j := j) (k := k) (l := l + 1) rfl) pu_c (cm _ _ (by decide) (by decide)))) pu_c)) pu_c (by decide)) (pu_var rfl) pu_c upd_same rfl ?_
      rw [upd_upd]
      generalize (k ^ 3 + k * 40111 + (l + 1) * 1299583 + 61027) = z
      exact p_ret (pu_I (g := fun i j => .int (i.fmod j)) (pu_int (pu_I0 (g := fun i j => .int (i + j)) (pu_I (g := fun i j => .int (i.fdiv j)) (at3 (i := i) (j := j) (k := z.fmod 2147483579) (l := l + 1) rfl) pu_c ⟨by decide, by decide⟩) (pu_I (g := fun i j => .int (i * j)) (pu_I (g := fun i j => .int (i.fmod j)) (pu_int (at3 (i := i) (j := j) (k := z.fmod 2147483579) (l := l + 1) rfl)) pu_c (by decide)) pu_c (cm _ _ (by decide) (by decide))))) (pu_var rfl) (by omega)) (done _ _ i j (z.fmod 2147483579) (l + 1) h1 (md2 z) ⟨_, rfl, md _⟩ rfl)
abbrev spOf : Sp := SpF (fun ds : List PyData => [bagI, dt (.list ds)]) (fun ds => 0 < ds.length ∧ ds.length ≤ 1000) fun ds => exI (fun d : PyData => dt d) fun d => d ∈ ds
theorem rv_ixE {ds : List PyData} : RvI (rIxL K) (dt (.list ds)) (exI (fun k : Int => dt (.int k)) fun k => 0 ≤ k ∧ k < ds.length) (exI (fun d : PyData => dt d) fun d => d ∈ ds) := fun x y A H s px ⟨k, ⟨h0, h1⟩, py⟩ Q q => by
  obtain ⟨n, rfl⟩ := Int.eq_ofNat_of_zero_le h0
  have hn : n < ds.length := by omega
  exact rv_ixL (d := ds[n]) (atI_nat (List.getElem?_eq_getElem hn)) x y A H s px py Q fun v B H2 g p => q v B H2 g ⟨_, List.getElem_mem hn, p⟩
theorem sc_law_of : FnScope ["_law_bag_here", "_law_things"] ["_law_bag_here", "_law_things"] (defScope s__law_of) := C8.fnScope_by (by decide +kernel)
theorem ok_law_of (T : Bt mg) (c_law_pull : C8.Cal P w K mg base 1 "_law_pull" spPull []) (F : Dfn K mg "_law_of" s__law_of ["_law_bag_here", "_law_things"]) : C8.Cal P w K mg base 2 "_law_of" spOf [] := by
  have sc := sc_law_of
  refine F.cal sc (SpF.len fun _ => rfl) fun f cdv A outer s H vs Q E hr hsp => ?_
  refine ⟨_, (pss_one (ps_ret (pe_ix ix_list (pv 1) (C8.pe_c c_law_pull hr (by decide) (by rfl) (pa_cons (pv 0) (pa_cons (pe_callB call_len_seq (by rfl) T.n_len bb_len (pa_cons (pv 1) pa_nil)) pa_nil))) (fun _ _ => rfl)))), ?_⟩
  obtain ⟨ds, B, hp, s0, ha, q⟩ := hsp
  dsimp only at hp ha q
  obtain ⟨v1, v2, rfl, h1, h2⟩ := ita2 ha
  exact s_ret (ev_op (ev_var h2) (ev_call (ds.length : Int) (ea_cons (ev_var h1) (ea1 (ev_lenL (ev_var (I := dt (.list ds)) h2)))) (by have := hp.1; have := hp.2; omega)) rv_ixE) s0 q
abbrev spChosen : Sp := SpF (fun x : List Place × Int => [bagI, dt (dPs x.1), dt (.int x.2)]) (fun x => (0 < x.2 ∧ x.2 ≤ 1000) ∧ x.1.length ≤ 1000) fun x => exI (fun ps : List Place => dt (dPs ps)) fun ps => (∀ p ∈ ps, p ∈ x.1) ∧ ps.length ≤ x.1.length
theorem os_ints {os : List (Option PyData)} (h : ∀ (i : Nat) (o : Option PyData), os[i]? = some o → ∃ k : Int, o = some (PyData.int k)) : ∃ ks : List Int, os.filterMap id = ks.map PyData.int ∧ ks.length = os.length := by
  induction os with
  | nil => exact ⟨[], rfl, rfl⟩
  | cons o os ih =>
    obtain ⟨ks, h1, h2⟩ := ih fun i o hi => h (i + 1) o hi
    obtain ⟨k, rfl⟩ := h 0 o rfl
    exact ⟨k :: ks, by rw [List.filterMap_cons]; simp [h1], by simp [h2]⟩
def chG (l : List Place) (ks : List Int) (i : Nat) : Option Place := if ks.getD i 1 = 0 then l[i]? else none
theorem sc_law_chosen : FnScope ["_law_bag_here", "_law_things", "_law_share", "_law_digits", "_law_thing", "_law_digit"] ["_law_bag_here", "_law_things", "_law_share"] (defScope s__law_chosen) := C8.fnScope_by (by decide +kernel)
theorem ok_law_chosen (T : Bt mg) (c_law_pull : C8.Cal P w K mg base 1 "_law_pull" spPull []) (F : Dfn K mg "_law_chosen" s__law_chosen ["_law_bag_here", "_law_things", "_law_share"]) : C8.Cal P w K mg base 2 "_law_chosen" spChosen [] := by
  have sc := sc_law_chosen
  refine F.cal sc (SpF.len fun _ => rfl) fun f cdv A outer s H vs Q E hr hsp => ?_
  refine ⟨_, (pss_cons (ps_setLc (i := 3) (own := [("_law_thing", 4)]) rfl sc.nd rfl rfl (sw_true rfl rfl rfl (by decide +kernel)) (pi_list (pv 1)) (blkOk_by (own := [("_law_thing", 4)]) (N := ["_law_bag_here", "_law_things", "_law_share", "_law_digits", "_law_thing", "_law_digit"]) (sc := defScope s__law_chosen) (by decide +kernel)) (fun _ _ _ _ _ => (pg_name (i := 4) sc.nd rfl (by first | exact Or.inl rfl | exact Or.inr rfl))) (fun _ _ _ _ _ => pts_nil) (fun _ _ _ _ _ => (C8.pe_c c_law_pull hr (by decide) (by rfl) (pa_cons (pv 0) (pa_cons (pv 2) pa_nil)))))
    (pss_one (ps_ret (pe_lc (own := [("_law_thing", 4), ("_law_digit", 5)]) rfl sc.nd (pi_zip (by rfl) T.n_zip (pa_cons (pv 1) (pa_cons (pv 3) pa_nil))) (blkOk_by (own := [("_law_thing", 4), ("_law_digit", 5)]) (N := ["_law_bag_here", "_law_things", "_law_share", "_law_digits", "_law_thing", "_law_digit"]) (sc := defScope s__law_chosen) (by decide +kernel)) (fun _ _ _ _ _ => (pg_tupK (n := 2) K rfl rfl (pgs_cons (pg_name (i := 4) sc.nd rfl (by first | exact Or.inl rfl | exact Or.inr rfl)) (pgs_cons (pg_name (i := 5) sc.nd rfl (by first | exact Or.inl rfl | exact Or.inr rfl)) pgs_nil)) rfl rfl)) (fun _ _ _ _ _ => (pts_one (pt_cmpR op_eq (pv 5) pe_int (nomark _)))) (fun _ _ _ _ _ => (pv 4)))))), ?_⟩
  obtain ⟨⟨l, m⟩, B, hp, s0, ha, q⟩ := hsp
  dsimp only at hp ha q
  obtain ⟨v1, v2, v3, rfl, h1, h2, h3⟩ := ita3 ha
  obtain ⟨hm, hl⟩ := hp
  have h2 : Rp B v2 (.list (l.map dP)) := h2
  refine s_set (ev_lcR (fun i o => ∃ k : Int, o = some (.int k)) (wk_list (ev_var (I := dt (.list (l.map dP))) h2)) (by rw [List.length_map]; omega) fun i y B4 li s4 py => ?_) s0 fun vd B1 H1 g1 p1 => ?_
  · exact ⟨_, true, gt_name, rfl, et_yes, (fun e => nomatch e), fun _ => Ev.imp (ev_call m (ea_cons (ev_var (bagI.mono s4 h1)) (ea1 (ev_var (I := dt (.int m)) (Rp.mono (Sd.of s4) h3)))) hm) fun v A ⟨k, hk, r⟩ => ⟨.int k, ⟨k, rfl⟩, r⟩⟩
  obtain ⟨os, ⟨ho1, ho2⟩, p1⟩ := p1
  dsimp only at p1
  obtain ⟨ks, hk1, hk2⟩ := os_ints ho2
  rw [hk1] at p1
  have p1 : Rp B1 vd (.list (ks.map .int)) := p1
  have hkl : ks.length = l.length := by rw [hk2, ho1, List.length_map]
  have h2 : Rp B1 v2 (.list (l.map dP)) := Rp.mono (Sd.of g1.base) h2
  refine s_ret (Ev.imp (I := dt (.list ((List.range (l.map dP).length).filterMap fun i => (chG l ks i).map dP))) (J := exI (fun ps : List Place => dt (dPs ps)) fun ps => (∀ p ∈ ps, p ∈ l) ∧ ps.length ≤ l.length) (ev_lc (fun i => (chG l ks i).map dP) (wk_zip (ev_var (I := dt (.list (l.map dP))) h2) (ev_var (I := dt (.list (ks.map .int))) p1) (by rw [List.length_map, List.length_map, hkl])) (by rw [List.length_map]; omega) fun i y B4 li s4 py => ?_) fun v A r => ⟨(List.range l.length).filterMap (chG l ks), ⟨fun p hp => ?_, ?_⟩, ?_⟩) g1.sub fun v B3 H3 g3 p3 => q v B3 H3 (g1.trans g3) p3
  · rw [List.length_map] at li
    have py : Rp B4 y (.tuple [(l.map dP).getD i .none, (ks.map PyData.int).getD i .none]) := py
    have lk : i < ks.length := by omega
    rw [getD_mapf li, getD_mapf lk] at py
    obtain ⟨x, z, rx, rz, hg⟩ := gt_two (K := K) (i := 4) (j := 5) (σ := wipe [some v1, some v2, some v3, some vd, none, none] [4, 5]) py
    obtain rfl := Rp.int_eq rz
    have e : ks.getD i 1 = ks[i] := by simp [List.getD, lk]
    refine ⟨_, decide (ks[i] = 0), hg, rfl, et_test (ev_eqI (ev_var (I := dt (.int ks[i])) (.int _)) (ev_int (i := 0))), fun h => ?_, fun h => ?_⟩
    · unfold chG
      rw [e, if_neg (of_decide_eq_false h)]
      rfl
    · refine ⟨dP l[i], ?_, ev_var (I := dt (dP l[i])) rx⟩
      unfold chG
      rw [e, if_pos (of_decide_eq_true h), List.getElem?_eq_getElem li]
      rfl
  · obtain ⟨i, _, hi⟩ := List.mem_filterMap.mp hp
    unfold chG at hi
    split at hi
    · exact List.mem_of_getElem? hi
    · cases hi
  · exact Nat.le_trans (List.length_filterMap_le _ _) (by rw [List.length_range]; exact Nat.le_refl _)
  · show Rp A v (.list (((List.range l.length).filterMap (chG l ks)).map dP))
    rw [List.map_filterMap]
    rw [List.length_map] at r
    exact r
end
end Sky

set_option Elab.async false
set_option linter.all false
set_option maxRecDepth 100000
set_option maxHeartbeats 4000000
/-! Draws: tests whose answer is not known, calls whose arguments are known in part; lists of fresh lists. -/
namespace Sky
open PySem PySem.Spec PyProof.Rows L2
section
variable {K : PySem.W.Frag} {σ : L2.St} {H B : Hp} {D : Ends} {tu tv tw : TS} {te ta tb : TE} {tr : TA} {t u : TT} {I J L : Item} {Is : List Item} {ds : List PyData} {b : Bool}
/-- a test: some answer, of which R is known -/
def EvX (t : TT) (σ : L2.St) (H : Hp) (R : Bool → Prop) : Prop := ∀ H1, Same H H1 → ∀ Q : Bool → Hp → Prop, (∀ b B H2, Grow H H1 B H2 → R b → Q b H2) → t σ H1 Q
theorem ex_eq {ι : Type} {f : ι → Int} {p : ι → Prop} {j : Int} (h : Ev ta σ H (exI (fun i => dt (.int (f i))) p)) (hb : EvD tb σ H (.int j)) : EvX (tTest (tOp rEq ta tb)) σ H fun _ => True := fun H1 s Q q =>
  h H1 s _ fun v B2 H2 g2 ⟨i, hi, p⟩ => Ev.mono g2.base hb H2 g2.sub _ fun w B3 H3 g3 p3 => by
    obtain rfl := Rp.int_eq p
    obtain rfl := Rp.int_eq p3
    exact ⟨rfl, _, rfl, q _ B3 H3 (g2.trans g3) trivial⟩
theorem ex_and {R : Bool → Prop} (h1 : EvT t σ H b) (h2 : b = true → EvX u σ H R) : EvX (tAnd t u) σ H fun c => c = true → b = true ∧ R true := fun H1 s Q q => h1 H1 s _ fun B2 H2 g2 => by
  cases b with
  | true =>
    rw [if_pos rfl]
    exact h2 rfl H2 (g2.base.trans g2.sub) Q fun b B3 H3 g3 r => q b _ H3 (g2.trans (Grow.mono g2.base g2.sub g3)) fun e => ⟨rfl, e ▸ r⟩
  | false =>
    rw [if_neg Bool.false_ne_true]
    exact q _ B2 H2 g2 fun e => nomatch e
theorem s_ifX {S : Bool → Prop} (h : EvX t σ B S) (s : Same B H) (R : L2.St → Hp → Prop) (h1 : S true → ∀ B1 H1, Grow B H B1 H1 → ∀ N : L2.St → Hp → Prop, (∀ σ' H', R σ' H' → N σ' H') → tu { D with nx := N } σ H1) (h2 : S false → ∀ B1 H1, Grow B H B1 H1 → R σ H1)
    (h3 : ∀ σ' H', R σ' H' → tv D σ' H') : tSeq (tIfS t tu tNext) tv D σ H := h H s _ fun b B1 H1 g r => by
  cases b with
  | true =>
    rw [if_pos rfl]
    exact h1 r B1 H1 g _ h3
  | false =>
    rw [if_neg Bool.false_ne_true]
    exact h3 _ H1 (h2 r B1 H1 g)
theorem s_sub1 {n : Nat} {c : Addr} {w : V} {ti : TE} (hs : σ[n]? = some (some (.ref c))) (k : ti σ H fun i H2 => rSetL (.ref c) i w H2 fun H3 => D.nx σ H3) : tAsg (tC w) (gSub (tVar n) ti rSetL) D σ H := ⟨.ref c, hs, k⟩
theorem ev_ifX {S : Bool → Prop} (h : EvX t σ H S) (h1 : Ev ta σ H I) (h2 : Ev tb σ H I) : Ev (tIf t ta tb) σ H I := fun H1 s Q q => h H1 s _ fun b B2 H2 g2 _ => by
  cases b with
  | true =>
    rw [if_pos rfl]
    exact Ev.mono g2.base h1 H2 g2.sub _ fun v B3 H3 g3 p3 => q v B3 H3 (g2.trans g3) p3
  | false =>
    rw [if_neg Bool.false_ne_true]
    exact Ev.mono g2.base h2 H2 g2.sub _ fun v B3 H3 g3 p3 => q v B3 H3 (g2.trans g3) p3
/-- a call, its arguments known in part -/
theorem ev_callE {α : Type} {args : α → List Item} {pre : α → Prop} {res : α → Item} {E : XK} (h : EvA tr σ H Is) (k : ∀ vs B, ItA B vs Is → ∃ x, pre x ∧ ItA B vs (args x) ∧ ∀ v B', Same B B' → (res x).P v B' → L.P v B') : Ev (tCall (SpF args pre res) [] E tr) σ H L := fun H1 s Q q =>
  h H1 s _ fun vs B2 H2 g2 p2 => by
    rw [List.append_nil]
    obtain ⟨x, hp, pa, hr⟩ := k vs B2 p2
    exact ⟨x, B2, hp, g2.sub, pa, fun v B3 H3 g3 p3 => q v B3 H3 (g2.trans g3) (hr v B3 g3.base p3)⟩
theorem ev_lstE {ι : Type} {f : ι → List PyData} {pre : ι → Prop} (h : EvA tr σ H Is) (k : ∀ vs B, ItA B vs Is → ∃ i, pre i ∧ RpA B vs (f i)) (hl : ∀ i, pre i → (f i).length ≤ 100000) : Ev (tLst tr) σ H (exI (fun i => dt (.list (f i))) pre) := fun H1 s Q q =>
  h H1 s _ fun vs B2 H2 g2 p2 => by
    obtain ⟨i, hi, r⟩ := k vs B2 p2
    exact ⟨by
      rw [r.length]
      exact Nat.le_trans (hl i hi) (by decide), fun p hp => q _ _ _ (g2.trans (Grow.alloc g2.sub hp)) ⟨i, hi, .lst upd_same (r.mono (Sd.of (same_new (g2.sub.free hp))))⟩⟩
theorem ev_tupE {ι : Type} {f : ι → List PyData} {pre : ι → Prop} (h : EvA tr σ H Is) (k : ∀ vs B, ItA B vs Is → ∃ i, pre i ∧ RpA B vs (f i)) (hl : ∀ i, pre i → (f i).length ≤ 100000) : Ev (tTup tr) σ H (exI (fun i => dt (.tuple (f i))) pre) := fun H1 s Q q =>
  h H1 s _ fun vs B2 H2 g2 p2 => by
    obtain ⟨i, hi, r⟩ := k vs B2 p2
    exact ⟨by
      rw [r.length]
      exact Nat.le_trans (hl i hi) (by decide), fun p hp => q _ _ _ (g2.trans (Grow.alloc g2.sub hp)) ⟨i, hi, .tup upd_same (r.mono (Sd.of (same_new (g2.sub.free hp))))⟩⟩
theorem ev_bindE {ι : Type} {r : R2} {F : ι → Item} {pre : ι → Prop} (h : Ev ta σ H (exI F pre)) (hb : Ev tb σ H J) (hr : ∀ i, pre i → RvI r (F i) J L) : Ev (tOp r ta tb) σ H L := ev_op h hb fun x y A H s ⟨i, hi, p⟩ py Q q => hr i hi x y A H s p py Q q
theorem ev_opE {ι : Type} {r : R2} {F : ι → Item} {pre : ι → Prop} (h : Ev ta σ H J) (hb : Ev tb σ H (exI F pre)) (hr : ∀ i, pre i → RvI r J (F i) L) : Ev (tOp r ta tb) σ H L := ev_op h hb fun x y A H s px ⟨i, hi, p⟩ Q q => hr i hi x y A H s px p Q q
theorem ev_cbE {ι : Type} {rc : List V → Hp → VK → Prop} {F G : ι → Item} {pre : ι → Prop} (h : Ev te σ H (exI F pre)) (hr : ∀ i, pre i → RcI rc [F i] (G i)) : Ev (tCB rc (tCons te tNil)) σ H (exI G pre) := ev_cb (ea1 h) fun vs A H s p Q q => by
  cases p with
  | cons p r =>
    cases r
    obtain ⟨i, hi, p⟩ := p
    exact hr i hi _ A H s (.cons p .nil) Q fun v B H2 g x => q v B H2 g ⟨i, hi, x⟩
theorem s_par {i j : Nat} (h : EvA tr σ B [I, J]) (s : Same B H) (k : ∀ v w B1 H1, Grow B H B1 H1 → I.P v B1 → J.P w B1 → tu D ((σ.set i (some v)).set j (some w)) H1) : tSeq (tPar i j tr) tu D σ H := h H s _ fun vs B1 H1 g p => by
  obtain ⟨v, w, rfl, h1, h2⟩ := ita2 p
  exact ⟨v, w, rfl, k v w B1 H1 g h1 h2⟩
theorem s_par3 {i j l : Nat} (h : EvA tr σ B [I, J, L]) (s : Same B H) (k : ∀ u v w B1 H1, Grow B H B1 H1 → I.P u B1 → J.P v B1 → L.P w B1 → tu D (((σ.set i (some u)).set j (some v)).set l (some w)) H1) : tSeq (tPar3 i j l tr) tu D σ H := h H s _ fun vs B1 H1 g p => by
  obtain ⟨u, v, w, rfl, h1, h2, h3⟩ := ita3 p
  exact ⟨u, v, w, rfl, k u v w B1 H1 g h1 h2 h3⟩
/-! ### a fresh thing; a list of fresh things -/
def EvF (te : TE) (σ : L2.St) (H : Hp) (I : Item) : Prop := ∀ H1, Same H H1 → ∀ Q : VK, (∀ a B H2, Grow H H1 B H2 → I.P (.ref a) B → H1 a = none → Q (.ref a) H2) → te σ H1 Q
theorem rp_ref {A : Hp} {a : Addr} {d : PyData} (r : Rp A (.ref a) d) : ∃ o, A a = some o := by
  cases r with
  | lst e r => exact ⟨_, e⟩
  | tup e r => exact ⟨_, e⟩
theorem lcF {wi : TI} {g : TG} {tt : TT} {vs : List Nat} {n : Nat} {Y : Nat → Item} (Rel : Nat → PyData → Prop) (hw : Wk wi σ B n Y) (hn : n ≤ 100000) (s : Same B H)
    (body : ∀ i x B', i < n → Same B B' → (Y i).P x B' → ∃ σ2, Gt g x (wipe σ vs) B' σ2 ∧ wipe σ2 vs = wipe σ vs ∧ EvT tt σ2 B' true ∧ EvF te σ2 B' (exI dt fun d => Rel i d)) {Q : VK}
    (q : ∀ (D : Addr) (as : List Addr) (ds : List PyData) (B2 H2 : Hp), Grow B H B2 H2 → B2 D = some (.lst (as.map V.ref)) → RpA B2 (as.map V.ref) ds → ds.length = n → (∀ i d, ds[i]? = some d → Rel i d) → H D = none → (∀ a ∈ as, H a = none ∧ a ≠ D) → as.Nodup → Q (.ref D) H2) : tLc wi g tt te vs σ H Q := by
  refine hw H s _ fun J B0 H0 g0 wj => ?_
  intro D hD
  have hBD : B0 D = none := g0.sub.free hD
  refine ⟨fun i m Hi => m = n - i ∧ i ≤ n ∧ ∃ (Bi : Hp) (as : List Addr) (ds : List PyData), Grow B0 H0 Bi Hi ∧ Bi D = none ∧ Hi D = some (.lst (as.map V.ref)) ∧ RpA Bi (as.map V.ref) ds ∧ ds.length = i ∧ (∀ i d, ds[i]? = some d → Rel i d) ∧ (∀ a ∈ as, H0 a = none ∧ a ≠ D) ∧ as.Nodup ∧ ∀ a ∈ as, Hi a ≠ none,
    ⟨n, by simp, Nat.zero_le _, B0, [], [], ⟨Same.refl B0, same_new hD, Same.put g0.sub hBD, fun _ _ h _ _ => h⟩, hBD, upd_same, .nil, rfl, (fun i d h => by simp at h), (fun a h => by simp at h), List.nodup_nil, fun a h => by simp at h⟩, ?_⟩
  rintro i m Hi ⟨rfl, hi, Bi, as, ds, gi, hDi, eD, ra, hl, hrel, hfr, hnd, hin⟩
  by_cases hlt : i < n
  · refine .inr ⟨wj.go i Hi (gi.base.trans gi.sub) hlt, fun Hi => ∃ (Bi : Hp) (as : List Addr) (ds : List PyData), Grow B0 H0 Bi Hi ∧ Bi D = none ∧ Hi D = some (.lst (as.map V.ref)) ∧ RpA Bi (as.map V.ref) ds ∧ ds.length = i + 1 ∧ (∀ i d, ds[i]? = some d → Rel i d) ∧ (∀ a ∈ as, H0 a = none ∧ a ≠ D) ∧ as.Nodup ∧ ∀ a ∈ as, Hi a ≠ none,
      fun H' p => ⟨n - (i + 1), by omega, rfl, hlt, p⟩, fun x H' y => ?_⟩
    obtain ⟨B', g', p'⟩ := (wj.mono gi.base).yld i Hi x H' gi.sub hlt y
    have k' := g'.kept hDi eD
    obtain ⟨σ2, hg, hwp, ht, hy⟩ := body i x B' hlt (g0.base.trans (gi.base.trans g'.base)) p'
    refine hg H' g'.sub _ ⟨hwp, ht H' g'.sub _ fun B3 H3 g3 => ?_⟩
    rw [if_pos rfl]
    have k3 := g3.kept k'.1 k'.2
    have gB := (gi.trans g').trans g3
    refine hy H3 (g3.base.trans g3.sub) _ fun a B4 H4 g4 p4 h4 => ?_
    have g4 : Grow B3 H3 (un B4 B3) H4 := Grow.mono g3.base g3.sub g4
    obtain ⟨d, hd, rd⟩ := p4
    have rd : Rp (un B4 B3) (.ref a) d := Rp.mono (Sd.of un_left) rd
    have k4 := g4.kept k3.1 k3.2
    have gC := gB.trans g4
    have haD : a ≠ D := fun z => by
      rw [z, k3.2] at h4
      cases h4
    have hnew : a ∉ as := fun z => hin a z (Classical.byContradiction fun hh => by
      have : Hi a = none := by
        cases e : Hi a with
        | none => rfl
        | some o => 
          have := g3.top _ _ (g'.top _ _ e)
          rw [h4] at this
          cases this
      exact hh this)
    refine ⟨as.map V.ref, k4.2, ?_, un B4 B3, as ++ [a], ds ++ [d], ⟨gC.base, Same.put gC.top hD, Same.put gC.sub k4.1, gC.new⟩, k4.1, by rw [upd_same, List.map_append]; rfl, ?_, by rw [List.length_append, List.length_singleton, hl], fun j e h => ?_, fun c hc => ?_, ?_, fun c hc => ?_⟩
    · rw [ra.length, hl]
      exact Nat.lt_of_le_of_lt (by omega : i ≤ 100000) (by decide)
    · rw [List.map_append]
      exact (ra.mono (Sd.of (g'.base.trans (g3.base.trans g4.base)))).app (.one rd)
    · rcases get_snoc h with h | ⟨h1, h2⟩
      · exact hrel j e h
      · rw [h1, h2, hl]
        exact hd
    · rcases List.mem_append.mp hc with hc | hc
      · exact hfr c hc
      · rw [List.mem_singleton.mp hc]
        refine ⟨?_, haD⟩
        exact gB.top.free h4
    · rw [List.nodup_append]
      refine ⟨hnd, List.nodup_cons.mpr ⟨by simp, List.nodup_nil⟩, fun x hx y hy => ?_⟩
      rw [List.mem_singleton.mp hy]
      exact fun z => hnew (z ▸ hx)
    · rcases List.mem_append.mp hc with hc | hc
      · have h1 := hin c hc
        by_cases e : c = D
        · rw [e, upd_same]
          exact fun z => nomatch z
        · rw [upd_ne e]
          exact same_some g4.top (same_some g3.top (same_some g'.top h1))
      · rw [List.mem_singleton.mp hc, upd_ne haD]
        obtain ⟨o, e⟩ := rp_ref rd
        rw [g4.sub _ _ e]
        exact fun z => nomatch z
  · have e : i = n := by omega
    subst e
    refine .inl ⟨wj.stop Hi (gi.base.trans gi.sub), ?_⟩
    have gc := gi.commit hD hDi eD
    refine q D as ds _ Hi (g0.trans gc) upd_same (ra.mono (Sd.of (same_new hDi))) hl hrel (g0.top.free hD) (fun a ha => ⟨g0.top.free (hfr a ha).1, (hfr a ha).2⟩) hnd
/-- a fresh list of things -/
theorem lcR_F {wi : TI} {g : TG} {tt : TT} {vs : List Nat} {n : Nat} {Y : Nat → Item} (Rel : Nat → PyData → Prop) (hw : Wk wi σ B n Y) (hn : n ≤ 100000)
    (body : ∀ i x B', i < n → Same B B' → (Y i).P x B' → ∃ σ2, Gt g x (wipe σ vs) B' σ2 ∧ wipe σ2 vs = wipe σ vs ∧ EvT tt σ2 B' true ∧ Ev te σ2 B' (exI dt fun d => Rel i d)) :
    EvF (tLc wi g tt te vs) σ B (exI (fun ds : List PyData => dt (.list ds)) fun ds => ds.length = n ∧ ∀ i d, ds[i]? = some d → Rel i d) := by
  intro H s Q q
  refine hw H s _ fun J B0 H0 g0 wj => ?_
  intro D hD
  have hBD : B0 D = none := g0.sub.free hD
  refine ⟨fun i m Hi => m = n - i ∧ i ≤ n ∧ ∃ (Bi : Hp) (xs : List V) (ds : List PyData), Grow B0 H0 Bi Hi ∧ Bi D = none ∧ Hi D = some (.lst xs) ∧ RpA Bi xs ds ∧ ds.length = i ∧ ∀ i d, ds[i]? = some d → Rel i d,
    ⟨n, by simp, Nat.zero_le _, B0, [], [], ⟨Same.refl B0, same_new hD, Same.put g0.sub hBD, fun _ _ h _ _ => h⟩, hBD, upd_same, .nil, rfl, fun i d h => by simp at h⟩, ?_⟩
  rintro i m Hi ⟨rfl, hi, Bi, xs, ds, gi, hDi, eD, ra, hl, hrel⟩
  by_cases hlt : i < n
  · refine .inr ⟨wj.go i Hi (gi.base.trans gi.sub) hlt, fun Hi => ∃ (Bi : Hp) (xs : List V) (ds : List PyData), Grow B0 H0 Bi Hi ∧ Bi D = none ∧ Hi D = some (.lst xs) ∧ RpA Bi xs ds ∧ ds.length = i + 1 ∧ ∀ i d, ds[i]? = some d → Rel i d,
      fun H' p => ⟨n - (i + 1), by omega, rfl, hlt, p⟩, fun x H' y => ?_⟩
    obtain ⟨B', g', p'⟩ := (wj.mono gi.base).yld i Hi x H' gi.sub hlt y
    have k' := g'.kept hDi eD
    obtain ⟨σ2, hg, hwp, ht, hy⟩ := body i x B' hlt (g0.base.trans (gi.base.trans g'.base)) p'
    refine hg H' g'.sub _ ⟨hwp, ht H' g'.sub _ fun B3 H3 g3 => ?_⟩
    rw [if_pos rfl]
    have k3 := g3.kept k'.1 k'.2
    have gB := (gi.trans g').trans g3
    refine Ev.mono g3.base hy H3 g3.sub _ fun v B4 H4 g4 ⟨d, hd, rd⟩ => ?_
    have k4 := g4.kept k3.1 k3.2
    have gC := gB.trans g4
    refine ⟨xs, k4.2, ?_, B4, xs ++ [v], ds ++ [d], ⟨gC.base, Same.put gC.top hD, Same.put gC.sub k4.1, gC.new⟩, k4.1, upd_same, (ra.mono (Sd.of (g'.base.trans (g3.base.trans g4.base)))).app (.one rd), by rw [List.length_append, List.length_singleton, hl], fun j e h => ?_⟩
    · rw [ra.length, hl]
      exact Nat.lt_of_le_of_lt (by omega : i ≤ 100000) (by decide)
    · rcases get_snoc h with h | ⟨h1, h2⟩
      · exact hrel j e h
      · rw [h1, h2, hl]
        exact hd
  · have e : i = n := by omega
    subst e
    refine .inl ⟨wj.stop Hi (gi.base.trans gi.sub), ?_⟩
    have gc := gi.commit hD hDi eD
    exact q D _ Hi (g0.trans gc) ⟨ds, ⟨hl, hrel⟩, .lst upd_same (ra.mono (Sd.of (same_new hDi)))⟩ (g0.top.free hD)
theorem EvF.ev (h : EvF te σ H I) : Ev te σ H I := fun H1 s Q q => h H1 s Q fun a B H2 g p _ => q _ B H2 g p
end
end Sky

set_option Elab.async false
set_option linter.all false
set_option maxRecDepth 100000
set_option maxHeartbeats 4000000
/-! The law's field and gusts. -/
namespace Sky
open PySem PySem.Spec PyProof.Rows L2
/-! ### rows by their places in the heap -/
def vO : Option Int → V
  | none => .non
  | some i => .int i
theorem rp_dO {A : Hp} {v : V} {o : Option Int} : Rp A v (dO o) ↔ v = vO o := by
  cases o with
  | none => exact ⟨fun r => Rp.non_eq r, fun e => e ▸ .non⟩
  | some i => exact ⟨fun r => Rp.int_eq r, fun e => e ▸ .int i⟩
theorem rpa_dO {A : Hp} : ∀ {vs : List V} {r : List (Option Int)}, RpA A vs (r.map dO) ↔ vs = r.map vO
  | [], [] => ⟨fun _ => rfl, fun _ => .nil⟩
  | [], o :: r => ⟨(fun h => nomatch h), (fun h => nomatch h)⟩
  | v :: vs, [] => ⟨(fun h => nomatch h), (fun h => nomatch h)⟩
  | v :: vs, o :: r => by
    constructor
    · intro h
      cases h with
      | cons a t => rw [rp_dO.mp a, rpa_dO.mp t]; rfl
    · intro h
      rw [List.map_cons, List.cons.injEq] at h
      exact .cons (rp_dO.mpr h.1) (rpa_dO.mpr h.2)
theorem rp_row {A : Hp} {a : Addr} {r : List (Option Int)} : Rp A (.ref a) (dRow r) ↔ A a = some (.lst (r.map vO)) := by
  constructor
  · intro h
    obtain ⟨b, xs, e, h1, h2⟩ := Rp.lst_eq h
    cases e
    rw [rpa_dO.mp h2] at h1
    exact h1
  · exact fun h => .lst h (rpa_dO.mpr rfl)
theorem rpa_rows {A : Hp} : ∀ {as : List Addr} {rows : List (List (Option Int))}, RpA A (as.map V.ref) (rows.map dRow) ↔ as.length = rows.length ∧ ∀ (i : Nat) a r, as[i]? = some a → rows[i]? = some r → A a = some (.lst (r.map vO))
  | [], [] => ⟨fun _ => ⟨rfl, (fun i a r h => nomatch h)⟩, fun _ => .nil⟩
  | [], o :: r => ⟨(fun h => nomatch h), fun h => nomatch h.1⟩
  | v :: vs, [] => ⟨(fun h => nomatch h), fun h => nomatch h.1⟩
  | v :: vs, o :: rows => by
    constructor
    · intro h
      cases h with
      | cons a t =>
        obtain ⟨h1, h2⟩ := rpa_rows.mp t
        refine ⟨by simp [h1], fun i b r e1 e2 => ?_⟩
        cases i with
        | zero =>
          cases e1
          cases e2
          exact rp_row.mp a
        | succ i => exact h2 i b r e1 e2
    · rintro ⟨h1, h2⟩
      exact .cons (rp_row.mpr (h2 0 _ _ rfl rfl)) (rpa_rows.mpr ⟨by simpa using h1, fun i b r e1 e2 => h2 (i + 1) b r e1 e2⟩)
theorem rows_of {P : List (Option Int) → Prop} {ds : List PyData} (h : ∀ (i : Nat) d, ds[i]? = some d → ∃ r, d = dRow r ∧ P r) : ∃ rows : List (List (Option Int)), ds = rows.map dRow ∧ ∀ r ∈ rows, P r := by
  induction ds with
  | nil => exact ⟨[], rfl, fun r h => nomatch h⟩
  | cons d ds ih =>
    obtain ⟨rows, h1, h2⟩ := ih fun i e he => h (i + 1) e he
    obtain ⟨r, h3, h4⟩ := h 0 d rfl
    refine ⟨r :: rows, by rw [h1, h3]; rfl, fun x hx => ?_⟩
    rcases List.mem_cons.mp hx with e | hx
    · rw [e]
      exact h4
    · exact h2 x hx
theorem gusts_of {P : List (Option Int) → Prop} {ds : List PyData} (h : ∀ (i : Nat) d, ds[i]? = some d → ∃ r, d = dGust r ∧ P r) : ∃ rows : List (List (Option Int)), ds = rows.map dGust ∧ ∀ r ∈ rows, P r := by
  induction ds with
  | nil => exact ⟨[], rfl, fun r h => nomatch h⟩
  | cons d ds ih =>
    obtain ⟨rows, h1, h2⟩ := ih fun i e he => h (i + 1) e he
    obtain ⟨r, h3, h4⟩ := h 0 d rfl
    refine ⟨r :: rows, by rw [h1, h3]; rfl, fun x hx => ?_⟩
    rcases List.mem_cons.mp hx with e | hx
    · rw [e]
      exact h4
    · exact h2 x hx
theorem os_of {P : Option Int → Prop} {ds : List PyData} (h : ∀ (i : Nat) d, ds[i]? = some d → ∃ o, d = dO o ∧ P o) : ∃ r : List (Option Int), ds = r.map dO ∧ ∀ o ∈ r, P o := by
  induction ds with
  | nil => exact ⟨[], rfl, fun r h => nomatch h⟩
  | cons d ds ih =>
    obtain ⟨rows, h1, h2⟩ := ih fun i e he => h (i + 1) e he
    obtain ⟨r, h3, h4⟩ := h 0 d rfl
    refine ⟨r :: rows, by rw [h1, h3]; rfl, fun x hx => ?_⟩
    rcases List.mem_cons.mp hx with e | hx
    · rw [e]
      exact h4
    · exact h2 x hx
/-! ### water -/
def okS : Option Int → Prop
  | none => False
  | some i => 0 ≤ i ∧ i ≤ 99
theorem okS.some {o : Option Int} (h : okS o) : o.isSome = true := by
  cases o with
  | none => exact h.elim
  | some i => rfl
theorem okS.ok {o : Option Int} (h : okS o) : ok99 o := by
  cases o with
  | none => exact h.elim
  | some i => exact h
theorem water_at {rows : List (List (Option Int))} {k j : Nat} {r : List (Option Int)} {o : Option Int} (h1 : rows[k]? = some r) (h2 : r[j]? = some o) (h3 : o.isSome = true) : waterB rows = true :=
  List.any_eq_true.mpr ⟨r, List.mem_of_getElem? h1, List.any_eq_true.mpr ⟨o, List.mem_of_getElem? h2, h3⟩⟩
theorem water_set {rows : List (List (Option Int))} {a b k j : Nat} {r : List (Option Int)} (ha : rows.length = a) (hb : ∀ r ∈ rows, r.length = b ∧ ∀ d ∈ r, okS d) (hk : rows[k]? = some r) (hj : j < b) (h : 1 < a * b) : waterB (rows.set k (r.set j none)) = true := by
  have hka : k < rows.length := (List.getElem?_eq_some_iff.mp hk).1
  have hr := hb r (List.mem_of_getElem? hk)
  by_cases h1 : 1 < b
  · obtain ⟨m, hm, hmj⟩ : ∃ m, m < b ∧ m ≠ j := if e : j = 0 then ⟨1, h1, by omega⟩ else ⟨0, by omega, by omega⟩
    have hm' : m < r.length := by omega
    refine water_at (k := k) (j := m) (r := r.set j none) (o := r[m]) (by simp [hka]) ?_ (hr.2 _ (List.getElem_mem hm')).some
    rw [List.getElem?_set_ne (by omega), List.getElem?_eq_getElem hm']
  · have hb1 : b = 1 := by omega
    have ha1 : 1 < a := by
      rw [hb1, Nat.mul_one] at h
      exact h
    obtain ⟨m, hm, hmk⟩ : ∃ m, m < a ∧ m ≠ k := if e : k = 0 then ⟨1, ha1, by omega⟩ else ⟨0, by omega, by omega⟩
    have hm' : m < rows.length := by omega
    have hrm := hb _ (List.getElem_mem hm')
    have h0 : 0 < rows[m].length := by omega
    refine water_at (k := m) (j := 0) (r := rows[m]) (o := rows[m][0]) ?_ (List.getElem?_eq_getElem h0) (hrm.2 _ (List.getElem_mem h0)).some
    rw [List.getElem?_set_ne (by omega), List.getElem?_eq_getElem hm']
theorem water_all {rows : List (List (Option Int))} {a b : Nat} (ha : rows.length = a) (hb : ∀ r ∈ rows, r.length = b ∧ ∀ d ∈ r, okS d) (h1 : 1 ≤ a) (h2 : 1 ≤ b) : waterB rows = true := by
  have h0 : 0 < rows.length := by omega
  have hr := hb _ (List.getElem_mem h0)
  have h3 : 0 < rows[0].length := by omega
  exact water_at (List.getElem?_eq_getElem h0) (List.getElem?_eq_getElem h3) (hr.2 _ (List.getElem_mem h3)).some
def FieldOk (a b : Nat) (rows : List (List (Option Int))) : Prop := rows.length = a ∧ (∀ r ∈ rows, r.length = b ∧ ∀ d ∈ r, ok99 d) ∧ waterB rows = true
section
variable {P : Program} {w : World} {K : PySem.W.Frag} {mg : Str → Option Value} {base : Heap} {W : Wd}
/-- a list at this address, these items -/
def lsI (a : Addr) (xs : List V) : Item := ⟨fun v H => v = .ref a ∧ H a = some (.lst xs), fun s ⟨e, h⟩ => ⟨e, s _ _ h⟩⟩
theorem rv_ixA {a : Addr} {as : List Addr} : RvI (rIxL K) (lsI a (as.map V.ref)) (exI (fun k : Int => dt (.int k)) fun k => 0 ≤ k ∧ k < as.length) (exI (fun k : Nat => xv (.ref (as.getD k 0))) fun k => k < as.length) := fun x y A H s ⟨e1, e2⟩ ⟨k, ⟨h0, h1⟩, py⟩ Q q => by
  obtain ⟨n, rfl⟩ := Int.eq_ofNat_of_zero_le h0
  have hn : n < as.length := by omega
  subst e1
  obtain rfl := Rp.int_eq py
  refine ⟨a, as.map V.ref, (n : Int), .ref (as.getD n 0), rfl, rfl, SqL.of (s _ _ e2), atI_nat ?_, q _ A H (Grow.refl s) ⟨n, hn, rfl⟩⟩
  rw [List.getElem?_map, List.getElem?_eq_getElem hn]
  simp [List.getD, hn]
theorem s_setF {σ : L2.St} {H : Hp} {D : Ends} {tu : TS} {te : TE} {i : Nat} (h : te σ H fun v H1 => tu D (σ.set i (some v)) H1) : tSeq (tAsg te (gName i)) tu D σ H := h
abbrev spField : Sp := SpF (fun x : Nat × Nat => [bagI, dt (.int x.1), dt (.int x.2)]) (fun x => (1 ≤ x.1 ∧ x.1 ≤ 3) ∧ (1 ≤ x.2 ∧ x.2 ≤ 3)) fun x => exI (fun rows : List (List (Option Int)) => dt (.list (rows.map dRow))) fun rows => FieldOk x.1 x.2 rows
def of7 : List PyData := [.int 0, .int 0, .int 1, .int 1, .int 2, .int 3, .int 99]
theorem of7_ok {d : PyData} (h : d ∈ of7) : ∃ o, d = dO o ∧ okS o := by
  simp only [of7, List.mem_cons, List.not_mem_nil, or_false] at h
  rcases h with rfl | rfl | rfl | rfl | rfl | rfl | rfl <;> exact ⟨some _, rfl, by decide, by decide⟩
theorem sc_law_field_of : FnScope ["_law_bag_here", "_law_tall", "_law_wide", "_law_rows", "_law_row", "_law_j", "_law_k"] ["_law_bag_here", "_law_tall", "_law_wide"] (defScope s__law_field_of) := C8.fnScope_by (by decide +kernel)
theorem ok_law_field_of (T : Bt mg) (c_law_pull : C8.Cal P w K mg base 1 "_law_pull" spPull []) (c_law_of : C8.Cal P w K mg base 2 "_law_of" spOf []) (F : Dfn K mg "_law_field_of" s__law_field_of ["_law_bag_here", "_law_tall", "_law_wide"]) : C8.Cal P w K mg base 3 "_law_field_of" spField [] := by
  have sc := sc_law_field_of
  refine F.cal sc (SpF.len fun _ => rfl) fun f cdv A outer s H vs Q E hr hsp => ?_
  refine ⟨_, (pss_cons (ps_setLc (i := 3) (own := [("_law_j", 5)]) rfl sc.nd rfl rfl (sw_true rfl rfl rfl (by decide +kernel)) (pi_range1 (by rfl) T.n_range (pa_cons (pv 1) pa_nil)) (blkOk_by (own := [("_law_j", 5)]) (N := ["_law_bag_here", "_law_tall", "_law_wide", "_law_rows", "_law_row", "_law_j", "_law_k"]) (sc := defScope s__law_field_of) (by decide +kernel)) (fun _ _ _ _ _ => (pg_name (i := 5) sc.nd rfl (by first | exact Or.inl rfl | exact Or.inr rfl))) (fun _ _ _ _ _ => pts_nil) (fun _ _ _ _ _ => (pe_lc (own := [("_law_k", 6)]) rfl sc.nd (pi_range1 (by rfl) T.n_range (pa_cons (pv 2) pa_nil)) (blkOk_by (own := [("_law_k", 6)]) (N := ["_law_bag_here", "_law_tall", "_law_wide", "_law_rows", "_law_row", "_law_j", "_law_k"]) (sc := (relS _ (defScope s__law_field_of))) (by decide +kernel)) (fun _ _ _ _ _ => (pg_name (i := 6) sc.nd rfl (by first | exact Or.inl rfl | exact Or.inr rfl))) (fun _ _ _ _ _ => pts_nil) (fun _ _ _ _ _ => (C8.pe_c c_law_of hr (by decide) (by rfl) (pa_cons (pv 0) (pa_cons (pe_lst (pa_cons pe_int (pa_cons pe_int (pa_cons pe_int (pa_cons pe_int (pa_cons pe_int (pa_cons pe_int (pa_cons pe_int pa_nil)))))))) pa_nil)))))))
    (pss_cons (ps_if (PW.pt (pw_and (pt_cmpR op_gt (pe_op op_mul (pv 1) (pv 2)) pe_int (nomark _)) (pw_and1 (pt_cmpR op_eq (C8.pe_c c_law_pull hr (by decide) (by rfl) (pa_cons (pv 0) (pa_cons pe_int pa_nil))) pe_int (nomark _))))) (pss_cons (ps_set (i := 4) sc.nd rfl (by first | exact Or.inl rfl | exact Or.inr rfl) (pe_ix ix_list (pv 3) (C8.pe_c c_law_pull hr (by decide) (by rfl) (pa_cons (pv 0) (pa_cons (pv 1) pa_nil))) (fun _ _ => rfl)))
      (pss_one (ps_asg pe_non (pg_sub (pv 4) (C8.pe_c c_law_pull hr (by decide) (by rfl) (pa_cons (pv 0) (pa_cons (pv 2) pa_nil))) set_list)))) pss_nil)
    (pss_one (ps_ret (pv 3))))), ?_⟩
  obtain ⟨⟨a, b⟩, B, hp, s0, ha, q⟩ := hsp
  dsimp only at hp ha q
  obtain ⟨v1, v2, v3, rfl, h1, h2, h3⟩ := ita3 ha
  obtain ⟨⟨ha1, ha3⟩, hb1, hb3⟩ := hp
  obtain rfl := Rp.int_eq h2
  obtain rfl := Rp.int_eq h3
  refine s_setF (lcF (fun i d => ∃ r : List (Option Int), d = dRow r ∧ r.length = b ∧ ∀ d ∈ r, okS d) (wk_r1 (ev_var (I := dt (.int (a : Nat))) (.int _)) (by omega) (by omega)) (by omega) s0 (fun i x B' li s' px => ⟨_, gt_name, rfl, et_yes, ?_⟩) fun D as ds B2 H2 g2 eD rA hl hrel hD hfr hnd => ?_)
  · refine fun H1 s1 Q1 q1 => lcR_F (fun i d => ∃ o, d = dO o ∧ okS o) (wk_r1 (ev_var (I := dt (.int (b : Nat))) (.int _)) (by omega) (by omega)) (by omega) (fun j y B3 lj s3 py => ⟨_, gt_name, rfl, et_yes, ?_⟩) H1 s1 Q1 fun c B4 H4 g4 ⟨ds, ⟨e1, e2⟩, r⟩ hc => ?_
    · refine Ev.imp (ev_call of7 (ea_cons (ev_var (bagI.mono (s'.trans s3) h1)) (ea1 (ev_lst (ds := of7) (ea_cons ev_int (ea_cons ev_int (ea_cons ev_int (ea_cons ev_int (ea_cons ev_int (ea_cons ev_int (ea_cons ev_int ea_nil))))))) (by show 7 ≤ 100000; decide)))) ⟨by show 0 < 7; decide, by show 7 ≤ 1000; decide⟩) fun v A ⟨d, hd, r⟩ => ⟨d, of7_ok hd, r⟩
    · obtain ⟨r0, h3, h4⟩ := os_of e2
      refine q1 c B4 H4 g4 ⟨dRow r0, ⟨r0, rfl, ?_, h4⟩, ?_⟩ hc
      · rw [h3, List.length_map] at e1
        rw [e1, Int.toNat_natCast]
      · have r : Rp B4 (.ref c) (.list ds) := r
        rw [h3] at r
        exact r
  · obtain ⟨rows, rfl, hrows⟩ := rows_of hrel
    rw [List.length_map, Int.toNat_natCast] at hl
    have hal := rA.length
    rw [List.length_map, List.length_map] at hal
    have hrl : rows.length = a := hl
    have hasl : as.length = a := by omega
    obtain ⟨_, hrA⟩ := rpa_rows.mp rA
    have hok : ∀ r ∈ rows, r.length = b ∧ ∀ d ∈ r, okS d := hrows
    refine s_ifX (ex_and (b := decide ((1 : Int) < (a : Int) * (b : Int))) (et_test (ev_ib (g := fun i j => decide (j < i)) (ev_ic (g := fun i j => i * j) (ev_var (I := dt (.int (a : Nat))) (.int _)) (ev_var (I := dt (.int (b : Nat))) (.int _)) (.inl ⟨by omega, by omega⟩)) (ev_int (i := 1)))) fun _ => ex_eq (f := fun k : Int => k) (ev_call (4 : Int) (ea_cons (ev_var (bagI.mono g2.base h1)) (ea1 (ev_int (i := 4)))) ⟨by decide, by decide⟩) (ev_int (i := 0))) g2.sub
      (fun σ' H' => ∃ B' rows y, Grow B H B' H' ∧ σ' = [some v1, some (.int (a : Nat)), some (.int (b : Nat)), some (.ref D), y, none, none] ∧ Rp B' (.ref D) (.list (rows.map dRow)) ∧ FieldOk a b rows)
      (fun hc B3 H3 g3 N hN => ?_) (fun _ B3 H3 g3 => ⟨B3, rows, none, g2.trans g3, rfl, .lst (g3.base _ _ eD) (rA.mono (Sd.of g3.base)), hrl, fun r hr => ⟨(hok r hr).1, fun d hd => ((hok r hr).2 d hd).ok⟩, water_all hrl hok ha1 hb1⟩) ?_
    · have hab : 1 < a * b := by
        have := of_decide_eq_true (hc rfl).1
        exact_mod_cast this
      have g13 := g2.trans g3
      refine s_set (I := exI (fun k : Nat => xv (.ref (as.getD k 0))) fun k => k < as.length) (ev_op (ev_var (I := lsI D (as.map V.ref)) ⟨rfl, g3.base _ _ eD⟩) (ev_call (a : Int) (ea_cons (ev_var (bagI.mono g13.base h1)) (ea1 (ev_var (I := dt (.int (a : Nat))) (.int _)))) ⟨by omega, by omega⟩) (fun x y A H s px py Q q => rv_ixA x y A H s px (by rw [hasl]; exact py) Q q)) g3.sub fun vr B4 H4 g4 ⟨k, hk, e4⟩ => ?_
      obtain rfl := (show vr = .ref (as.getD k 0) from e4)
      have hkr : k < rows.length := by omega
      generalize hc0 : as.getD k 0 = c
      have hc1 : as[k]? = some c := by
        rw [List.getElem?_eq_getElem hk, ← hc0]
        simp [List.getD, hk]
      have hcm : c ∈ as := List.mem_of_getElem? hc1
      obtain ⟨hcn, hcD⟩ := hfr c hcm
      have g14 := g13.trans g4
      have g24 := g3.trans g4
      have hBc : B c = none := s0.free hcn
      obtain ⟨r, hr⟩ : ∃ r, rows[k]? = some r := ⟨_, List.getElem?_eq_getElem hkr⟩
      have ec : B4 c = some (.lst (r.map vO)) := g24.base _ _ (hrA k c r hc1 hr)
      have eH : H4 c = some (.lst (r.map vO)) := g4.sub _ _ ec
      have hrk := hok r (List.mem_of_getElem? hr)
      have gd : Grow B H (Sky.del B4 c) H4 := g14.undo hBc
      have sB : Same B (Sky.del B4 c) := gd.base
      have hpull : Ev (tCall spPull [] C8.E0 (tCons (tVar 0) (tCons (tVar 2) tNil))) [some v1, some (.int (a : Nat)), some (.int (b : Nat)), some (.ref D), some (.ref c), none, none] (Sky.del B4 c) (exI (fun k : Int => dt (.int k)) fun k => 0 ≤ k ∧ k < (b : Int)) :=
        ev_call (b : Int) (ea_cons (ev_var (bagI.mono sB h1)) (ea1 (ev_var (I := dt (.int (b : Nat))) (.int _)))) ⟨by omega, by omega⟩
      refine s_sub1 rfl ?_
      refine hpull H4 gd.sub _ fun u B5 H5 g5 ⟨j, ⟨j0, jb⟩, pj⟩ => ?_
      obtain rfl := Rp.int_eq pj
      obtain ⟨n, rfl⟩ := Int.eq_ofNat_of_zero_le j0
      have k5 : B5 c = none ∧ H5 c = some (.lst (r.map vO)) := g5.kept del_at eH
      have hn : n < b := by omega
      have hix : ixN (r.map vO).length ((n : Nat) : Int) = some n := by
        unfold ixN
        rw [List.length_map, if_pos (by omega), if_pos (by omega), Int.toNat_natCast]
      refine ⟨c, r.map vO, (n : Int), n, rfl, rfl, k5.2, hix, ?_⟩
      have gf : Grow B H B5 (upd H5 c (.lst ((r.map vO).set n .non))) := (gd.trans g5).put hcn k5.1
      have gg : Grow B H (upd B5 c (.lst ((r.map vO).set n .non))) (upd H5 c (.lst ((r.map vO).set n .non))) := gf.commit hcn k5.1 upd_same
      have er : (r.map vO).set n .non = (r.set n none).map vO := by
        rw [List.map_set]
        rfl
      have s45 : ∀ x o, x ≠ c → B4 x = some o → B5 x = some o := fun x o hx e => g5.base x o (by rw [del_ne hx]; exact e)
      refine hN _ _ ⟨_, rows.set k (r.set n none), _, gg, rfl, .lst (xs := as.map V.ref) ?_ (rpa_rows.mpr ⟨by rw [List.length_set, hasl, hrl], fun i x y hx hy => ?_⟩), by rw [List.length_set, hrl], fun y hy => ?_, water_set hrl hok hr hn hab⟩
      · rw [upd_ne hcD.symm]
        exact s45 D _ hcD.symm (g24.base _ _ eD)
      · by_cases hik : i = k
        · subst hik
          rw [hc1] at hx
          cases hx
          rw [List.getElem?_set_self hkr] at hy
          cases hy
          rw [upd_same, er]
        · have hxc : x ≠ c := fun z => by
            subst z
            have h1 := (List.getElem?_eq_some_iff.mp hx)
            have h2 := (List.getElem?_eq_some_iff.mp hc1)
            obtain ⟨l1, e1⟩ := h1
            obtain ⟨l2, e2⟩ := h2
            exact hik ((List.getElem_inj hnd).mp (e1.trans e2.symm))
          rw [List.getElem?_set_ne (Ne.symm hik)] at hy
          rw [upd_ne hxc]
          exact s45 x _ hxc (g24.base _ _ (hrA i x y hx hy))
      · rcases List.mem_or_eq_of_mem_set hy with hy | rfl
        · exact ⟨(hok y hy).1, fun d hd => ((hok y hy).2 d hd).ok⟩
        · refine ⟨by rw [List.length_set]; exact hrk.1, fun d hd => ?_⟩
          rcases List.mem_or_eq_of_mem_set hd with hd | rfl
          · exact (hrk.2 d hd).ok
          · trivial
    · rintro σ' H3 ⟨B3, rows, y, g3, rfl, r3, hf⟩
      exact s_ret (ev_var (I := exI (fun rows : List (List (Option Int)) => dt (.list (rows.map dRow))) fun rows => FieldOk a b rows) ⟨rows, hf, r3⟩) g3.sub fun v B4 H4 g4 p4 => q v B4 H4 (g3.trans g4) p4
def of7n : List PyData := [.int 0, .int 0, .int 0, .int 1, .int 2, .int 4, .none]
theorem of7n_ok {d : PyData} (h : d ∈ of7n) : ∃ o, d = dO o ∧ ok99 o := by
  simp only [of7n, List.mem_cons, List.not_mem_nil, or_false] at h
  rcases h with rfl | rfl | rfl | rfl | rfl | rfl | rfl
  all_goals first | exact ⟨none, rfl, trivial⟩ | exact ⟨some _, rfl, by decide, by decide⟩
abbrev spGusts : Sp := SpF (fun m : Nat => [bagI, dt (.int m)]) (fun m => m ≤ 3) fun m => exI (fun gs : List (List (Option Int)) => dt (.list (gs.map dGust))) fun gs => gs.length = m ∧ ∀ g ∈ gs, g.length = 5 ∧ ∀ d ∈ g, ok99 d
theorem sc_law_gusts : FnScope ["_law_bag_here", "_law_many", "_law_j", "_law_k"] ["_law_bag_here", "_law_many"] (defScope s__law_gusts) := C8.fnScope_by (by decide +kernel)
theorem ok_law_gusts (T : Bt mg) (c_law_of : C8.Cal P w K mg base 2 "_law_of" spOf []) (F : Dfn K mg "_law_gusts" s__law_gusts ["_law_bag_here", "_law_many"]) : C8.Cal P w K mg base 3 "_law_gusts" spGusts [] := by
  have sc := sc_law_gusts
  refine F.cal sc (SpF.len fun _ => rfl) fun f cdv A outer s H vs Q E hr hsp => ?_
  refine ⟨_, (pss_one (ps_ret (pe_lc (own := [("_law_j", 2)]) rfl sc.nd (pi_range1 (by rfl) T.n_range (pa_cons (pv 1) pa_nil)) (blkOk_by (own := [("_law_j", 2)]) (N := ["_law_bag_here", "_law_many", "_law_j", "_law_k"]) (sc := defScope s__law_gusts) (by decide +kernel)) (fun _ _ _ _ _ => (pg_name (i := 2) sc.nd rfl (by first | exact Or.inl rfl | exact Or.inr rfl))) (fun _ _ _ _ _ => pts_nil) (fun _ _ _ _ _ => (pe_callTy (call_tupleK K rfl) (by rfl) T.n_tuple bb_tuple (pa_cons (pe_lc (own := [("_law_k", 3)]) rfl sc.nd (pi_range1 (by rfl) T.n_range (pa_cons pe_int pa_nil)) (blkOk_by (own := [("_law_k", 3)]) (N := ["_law_bag_here", "_law_many", "_law_j", "_law_k"]) (sc := (relS _ (defScope s__law_gusts))) (by decide +kernel)) (fun _ _ _ _ _ => (pg_name (i := 3) sc.nd rfl (by first | exact Or.inl rfl | exact Or.inr rfl))) (fun _ _ _ _ _ => pts_nil) (fun _ _ _ _ _ => (C8.pe_c c_law_of hr (by decide) (by rfl) (pa_cons (pv 0) (pa_cons (pe_lst (pa_cons pe_int (pa_cons pe_int (pa_cons pe_int (pa_cons pe_int (pa_cons pe_int (pa_cons pe_int (pa_cons pe_non pa_nil)))))))) pa_nil))))) pa_nil)))))), ?_⟩
  obtain ⟨m, B, hp, s0, ha, q⟩ := hsp
  dsimp only at hp ha q
  obtain ⟨v1, v2, rfl, h1, h2⟩ := ita2 ha
  have hp : m ≤ 3 := hp
  obtain rfl := Rp.int_eq h2
  refine s_ret (Ev.imp (J := exI (fun gs : List (List (Option Int)) => dt (.list (gs.map dGust))) fun gs => gs.length = m ∧ ∀ g ∈ gs, g.length = 5 ∧ ∀ d ∈ g, ok99 d)
    ((lcR_F (fun i d => ∃ r : List (Option Int), d = dGust r ∧ r.length = 5 ∧ ∀ d ∈ r, ok99 d) (wk_r1 (ev_var (I := dt (.int (m : Nat))) (.int _)) (by omega) (by omega)) (by omega) fun i x B' li s' px => ⟨_, gt_name, rfl, et_yes, ?_⟩).ev) fun v A ⟨ds, ⟨e1, e2⟩, r⟩ => ?_) s0 q
  · refine Ev.imp (ev_cbE (F := fun r : List (Option Int) => dt (.list (r.map dO))) (G := fun r : List (Option Int) => dt (.tuple (r.map dO))) (pre := fun r => r.length = 5 ∧ ∀ d ∈ r, ok99 d) (Ev.imp ((lcR_F (fun i d => ∃ o, d = dO o ∧ ok99 o) (wk_r1 (ev_int (i := 5)) (by decide) (by decide)) (by decide) fun j y B3 lj s3 py => ⟨_, gt_name, rfl, et_yes, ?_⟩).ev) fun v A ⟨ds, ⟨e1, e2⟩, r⟩ => ?_) fun r _ => rc_tuple) fun v A ⟨r, hr, p⟩ => ⟨dGust r, ⟨r, rfl, hr⟩, p⟩
    · exact Ev.imp (ev_call of7n (ea_cons (ev_var (bagI.mono (s'.trans s3) h1)) (ea1 (ev_lst (ds := of7n) (ea_cons ev_int (ea_cons ev_int (ea_cons ev_int (ea_cons ev_int (ea_cons ev_int (ea_cons ev_int (ea_cons ev_non ea_nil))))))) (by show 7 ≤ 100000; decide)))) ⟨by show 0 < 7; decide, by show 7 ≤ 1000; decide⟩) fun v A ⟨d, hd, r⟩ => ⟨d, of7n_ok hd, r⟩
    · obtain ⟨r0, h3, h4⟩ := os_of e2
      have r : Rp A v (.list ds) := r
      rw [h3] at r
      rw [h3, List.length_map] at e1
      exact ⟨r0, ⟨e1, h4⟩, r⟩
  · obtain ⟨gs, h3, h4⟩ := gusts_of e2
    have r : Rp A v (.list ds) := r
    rw [h3] at r
    rw [h3, List.length_map, Int.toNat_natCast] at e1
    exact ⟨gs, ⟨e1, h4⟩, r⟩
end
end Sky

set_option Elab.async false
set_option linter.all false
set_option maxRecDepth 100000
set_option maxHeartbeats 4000000
/-! The law's sea and tour. -/
namespace Sky
open PySem PySem.Spec PyProof.Rows L2
section
variable {P : Program} {w : World} {K : PySem.W.Frag} {mg : Str → Option Value} {base : Heap} {W : Wd}
def wet (s : Sea) : Prop := SeaOk s ∧ waterB s.rows = true
def siz : List (Nat × Nat) := [(1, 2), (2, 2), (1, 3), (2, 3), (3, 2), (3, 1), (1, 1)]
def dS (p : Nat × Nat) : PyData := dC ((p.1 : Int), (p.2 : Int))
theorem siz_ok {d : PyData} (h : d ∈ siz.map dS) : ∃ p : Nat × Nat, d = dS p ∧ (1 ≤ p.1 ∧ p.1 ≤ 3) ∧ (1 ≤ p.2 ∧ p.2 ≤ 3) := by
  obtain ⟨p, hp, rfl⟩ := List.mem_map.mp h
  refine ⟨p, rfl, ?_⟩
  simp only [siz, List.mem_cons, List.not_mem_nil, or_false] at hp
  rcases hp with rfl | rfl | rfl | rfl | rfl | rfl | rfl <;> decide
theorem sea_ok {a b m : Nat} {rows gs : List (List (Option Int))} {top : Int} (ha : 1 ≤ a ∧ a ≤ 3) (hb : 1 ≤ b ∧ b ≤ 3) (hm : m ≤ 3) (hf : FieldOk a b rows) (hg : gs.length = m ∧ ∀ g ∈ gs, g.length = 5 ∧ ∀ d ∈ g, ok99 d) (ht : 1 ≤ top ∧ top ≤ 99) : wet ⟨rows, gs, top⟩ :=
  ⟨⟨by show 1 ≤ rows.length; rw [hf.1]; exact ha.1, by show rows.length ≤ 3; rw [hf.1]; exact ha.2, ⟨b, hb.1, hb.2, fun r hr => (hf.2.1 r hr).1⟩, fun r hr => (hf.2.1 r hr).2, by show gs.length ≤ 3; rw [hg.1]; exact hm, hg.2, ht.1, ht.2⟩, hf.2.2⟩
abbrev spSea : Sp := SpF (fun _ : Unit => [bagI, dt (.int 3)]) (fun _ => True) fun _ => exI (fun s : Sea => dt (dSea s)) wet
theorem ev_siz {σ : L2.St} {B : Hp} : EvD (tLst (tCons (tTup (tCons (tC (.int 1)) (tCons (tC (.int 2)) tNil))) (tCons (tTup (tCons (tC (.int 2)) (tCons (tC (.int 2)) tNil))) (tCons (tTup (tCons (tC (.int 1)) (tCons (tC (.int 3)) tNil))) (tCons (tTup (tCons (tC (.int 2)) (tCons (tC (.int 3)) tNil))) (tCons (tTup (tCons (tC (.int 3)) (tCons (tC (.int 2)) tNil))) (tCons (tTup (tCons (tC (.int 3)) (tCons (tC (.int 1)) tNil))) (tCons (tTup (tCons (tC (.int 1)) (tCons (tC (.int 1)) tNil))) tNil)))))))) σ B (.list (siz.map dS)) :=
  ev_lst (ds := siz.map dS) (ea_cons (ev_pr ev_int ev_int) (ea_cons (ev_pr ev_int ev_int) (ea_cons (ev_pr ev_int ev_int) (ea_cons (ev_pr ev_int ev_int) (ea_cons (ev_pr ev_int ev_int) (ea_cons (ev_pr ev_int ev_int) (ea_cons (ev_pr ev_int ev_int) ea_nil))))))) (by show 7 ≤ 100000; decide)
theorem sc_law_sea : FnScope ["_law_bag_here", "_law_hours", "_law_tall", "_law_wide", "_law_field_here", "_law_gusts_here"] ["_law_bag_here", "_law_hours"] (defScope s__law_sea) := C8.fnScope_by (by decide +kernel)
theorem ok_law_sea (T : Bt mg) (c_law_pull : C8.Cal P w K mg base 1 "_law_pull" spPull []) (c_law_of : C8.Cal P w K mg base 2 "_law_of" spOf []) (c_law_field_of : C8.Cal P w K mg base 3 "_law_field_of" spField []) (c_law_gusts : C8.Cal P w K mg base 3 "_law_gusts" spGusts []) (F : Dfn K mg "_law_sea" s__law_sea ["_law_bag_here", "_law_hours"]) : C8.Cal P w K mg base 4 "_law_sea" spSea [] := by
  have sc := sc_law_sea
  refine F.cal sc (SpF.len fun _ => rfl) fun f cdv A outer s H vs Q E hr hsp => ?_
  refine ⟨_, (pss_cons (ps_asg (C8.pe_c c_law_of hr (by decide) (by rfl) (pa_cons (pv 0) (pa_cons (pe_lst (pa_cons (pe_tup (pa_cons pe_int (pa_cons pe_int pa_nil))) (pa_cons (pe_tup (pa_cons pe_int (pa_cons pe_int pa_nil))) (pa_cons (pe_tup (pa_cons pe_int (pa_cons pe_int pa_nil))) (pa_cons (pe_tup (pa_cons pe_int (pa_cons pe_int pa_nil))) (pa_cons (pe_tup (pa_cons pe_int (pa_cons pe_int pa_nil))) (pa_cons (pe_tup (pa_cons pe_int (pa_cons pe_int pa_nil))) (pa_cons (pe_tup (pa_cons pe_int (pa_cons pe_int pa_nil))) pa_nil)))))))) pa_nil))) (pg_tup (n := 2) rfl (pgs_cons (pg_name (i := 2) sc.nd rfl (by first | exact Or.inl rfl | exact Or.inr rfl)) (pgs_cons (pg_name (i := 3) sc.nd rfl (by first | exact Or.inl rfl | exact Or.inr rfl)) pgs_nil))))
    (pss_cons (ps_par (i := 4) (j := 5) rfl sc.nd rfl rfl (by decide) rfl rfl (pa_cons (C8.pe_c c_law_field_of hr (by decide) (by rfl) (pa_cons (pv 0) (pa_cons (pv 2) (pa_cons (pv 3) pa_nil)))) (pa_cons (C8.pe_c c_law_gusts hr (by decide) (by rfl) (pa_cons (pv 0) (pa_cons (C8.pe_c c_law_pull hr (by decide) (by rfl) (pa_cons (pv 0) (pa_cons (pe_op op_add (pv 1) pe_int) pa_nil))) pa_nil))) pa_nil)) rfl)
    (pss_one (ps_ret (pe_tup (pa_cons (pv 4) (pa_cons (pv 5) (pa_cons (C8.pe_c c_law_of hr (by decide) (by rfl) (pa_cons (pv 0) (pa_cons (pe_lst (pa_cons pe_int (pa_cons (pe_op op_add pe_int (C8.pe_c c_law_pull hr (by decide) (by rfl) (pa_cons (pv 0) (pa_cons pe_int pa_nil)))) (pa_cons pe_int (pa_cons pe_int (pa_cons pe_int pa_nil)))))) pa_nil))) pa_nil)))))))), ?_⟩
  obtain ⟨x, B, hp, s0, ha, q⟩ := hsp
  dsimp only at hp ha q
  obtain ⟨v1, v2, rfl, h1, h2⟩ := ita2 ha
  obtain rfl := Rp.int_eq h2
  refine s_asg (I := exI (fun p : Nat × Nat => dt (dS p)) fun p => (1 ≤ p.1 ∧ p.1 ≤ 3) ∧ (1 ≤ p.2 ∧ p.2 ≤ 3)) (Ev.imp (ev_call (siz.map dS) (ea_cons (ev_var h1) (ea1 ev_siz)) ⟨by show 0 < 7; decide, by show 7 ≤ 1000; decide⟩) fun v A ⟨d, hd, r⟩ => ?_) s0 fun u B1 H1 g1 ⟨⟨a, b⟩, ⟨ha, hb⟩, p1⟩ => ?_
  · obtain ⟨p, rfl, h⟩ := siz_ok hd
    exact ⟨p, h, r⟩
  obtain ⟨x, y, rx, ry, hg⟩ := gt_two (K := K) (i := 2) (j := 3) (σ := [some v1, some (.int 3), none, none, none, none]) p1
  obtain rfl := Rp.int_eq rx
  obtain rfl := Rp.int_eq ry
  refine ⟨_, hg, ?_⟩
  have hb1 := bagI.mono g1.base h1
  have hpar : EvA (tCons (tCall spField [] C8.E0 (tCons (tVar 0) (tCons (tVar 2) (tCons (tVar 3) tNil)))) (tCons (tCall spGusts [] C8.E0 (tCons (tVar 0) (tCons (tCall spPull [] C8.E0 (tCons (tVar 0) (tCons (tOp (rI0 fun i j => .int (i + j)) (tVar 1) (tC (.int 1))) tNil))) tNil))) tNil)) [some v1, some (.int 3), some (.int (a : Nat)), some (.int (b : Nat)), none, none] B1
      [exI (fun rows : List (List (Option Int)) => dt (.list (rows.map dRow))) (fun rows => FieldOk a b rows), exI (fun gs : List (List (Option Int)) => dt (.list (gs.map dGust))) fun gs => gs.length ≤ 3 ∧ ∀ g ∈ gs, g.length = 5 ∧ ∀ d ∈ g, ok99 d] := by
    refine ea_cons (ev_call (a, b) (ea_cons (ev_var hb1) (ea_cons (ev_var (I := dt (.int (a : Nat))) (.int _)) (ea1 (ev_var (I := dt (.int (b : Nat))) (.int _))))) ⟨ha, hb⟩) (ea1 ?_)
    refine ev_callE (Is := [bagI, exI (fun k : Int => dt (.int k)) fun k => 0 ≤ k ∧ k < 4]) (ea_cons (ev_var hb1) (ea1 (ev_call (4 : Int) (ea_cons (ev_var hb1) (ea1 (ev_i (g := fun i j => i + j) (ev_var (I := dt (.int 3)) (.int 3)) (ev_int (i := 1))))) ⟨by decide, by decide⟩))) fun vs A hvs => ?_
    obtain ⟨x, y, rfl, hx, k, ⟨k0, k4⟩, hy⟩ := ita2 hvs
    obtain ⟨n, rfl⟩ := Int.eq_ofNat_of_zero_le k0
    exact ⟨n, by omega, .cons hx (.cons hy .nil), fun v B' s' ⟨gs, ⟨h1, h2⟩, r⟩ => ⟨gs, ⟨by omega, h2⟩, r⟩⟩
  refine s_par hpar g1.sub fun vf vg B2 H2 g2 ⟨rows, hf, rf⟩ ⟨gs, ⟨hgl, hgs⟩, rg⟩ => ?_
  have g12 := g1.trans g2
  have hb2 := bagI.mono g12.base h1
  refine s_ret (I := exI (fun s : Sea => dt (dSea s)) wet) ?_ g2.sub fun v B3 H3 g3 p3 => q v B3 H3 (g12.trans g3) p3
  refine Ev.imp (ev_tupE (f := fun t : Int => [.list (rows.map dRow), .list (gs.map dGust), .int t]) (pre := fun t : Int => 1 ≤ t ∧ t ≤ 99) (ea_cons (ev_var (I := dt (.list (rows.map dRow))) rf) (ea_cons (ev_var (I := dt (.list (gs.map dGust))) rg) (ea1 (I := exI (fun t : Int => dt (.int t)) fun t => 1 ≤ t ∧ t ≤ 99) ?_))) (fun vs A hvs => ?_) fun i _ => by show 3 ≤ 100000; decide) fun v A ⟨t, ht, r⟩ => ⟨⟨rows, gs, t⟩, sea_ok ha hb hgl hf ⟨rfl, hgs⟩ ht, r⟩
  · refine ev_callE (Is := [bagI, exI (fun k : Int => dt (.list [.int 9, .int (1 + k), .int 5, .int 9, .int 99])) fun k => 0 ≤ k ∧ k < 9]) (ea_cons (ev_var hb2) (ea1 (ev_lstE (ea_cons (ev_int (i := 9)) (ea_cons (ev_opE (F := fun k : Int => dt (.int k)) (L := exI (fun k : Int => dt (.int (1 + k))) fun k => 0 ≤ k ∧ k < 9) (ev_int (i := 1)) (ev_call (9 : Int) (ea_cons (ev_var hb2) (ea1 ev_int)) ⟨by decide, by decide⟩) fun k hk x y A H s px py Q q => ?_) (ea_cons (ev_int (i := 5)) (ea_cons (ev_int (i := 9)) (ea1 (ev_int (i := 99))))))) (fun vs A hvs => ?_) fun i _ => by show 5 ≤ 100000; decide))) fun vs A hvs => ?_
    · obtain rfl := Rp.int_eq px
      obtain rfl := Rp.int_eq py
      exact ⟨1, k, rfl, rfl, q _ A H (Grow.refl s) ⟨k, hk, .int _⟩⟩
    · obtain ⟨a1, a2, a3, a4, a5, rfl, h1, ⟨k, hk, h2⟩, h3, h4, h5⟩ := ita5 hvs
      exact ⟨k, hk, .cons h1 (.cons h2 (.cons h3 (.cons h4 (.cons h5 .nil))))⟩
    · obtain ⟨x, y, rfl, hx, k, ⟨k0, k9⟩, hy⟩ := ita2 hvs
      refine ⟨[.int 9, .int (1 + k), .int 5, .int 9, .int 99], ⟨by show 0 < 5; decide, by show 5 ≤ 1000; decide⟩, .cons hx (.cons hy .nil), fun v B' s' ⟨d, hd, r⟩ => ?_⟩
      simp only [List.mem_cons, List.not_mem_nil, or_false] at hd
      rcases hd with rfl | rfl | rfl | rfl | rfl
      · exact ⟨9, by decide, r⟩
      · exact ⟨1 + k, ⟨by omega, by omega⟩, r⟩
      · exact ⟨5, by decide, r⟩
      · exact ⟨9, by decide, r⟩
      · exact ⟨99, by decide, r⟩
  · obtain ⟨x, y, z, rfl, hx, hy, t, ht, hz⟩ := ita3 hvs
    exact ⟨t, ht, .cons hx (.cons hy (.cons hz .nil))⟩
def banOk (s : Sea) (o : Option (List Place)) : Prop := ∀ ps, o = some ps → ps.length ≤ 400 ∧ ∀ p ∈ ps, p ∈ spots s
def TourOk (s : Sea) (t : Tr) : Prop := TrOk t ∧ t.s = s ∧ banOk s t.ban
theorem cells_ne {s : Sea} (h : wet s) : 0 < (cells s).length := by
  obtain ⟨r, hr, h2⟩ := List.any_eq_true.mp h.2
  obtain ⟨o, ho, h3⟩ := List.any_eq_true.mp h2
  obtain ⟨j, hj, e1⟩ := List.mem_iff_getElem.mp hr
  obtain ⟨k, hk, e2⟩ := List.mem_iff_getElem.mp ho
  have e3 : s.rows.getD j [] = r := by simp [List.getD, hj, e1]
  have e4 : r.getD k none = o := by simp [List.getD, hk, e2]
  refine List.length_pos_of_mem (mem_cells.mpr ⟨j, k, rfl, hj, by rw [e3]; exact hk, by rw [e3, e4]; exact h3⟩)
abbrev spTour : Sp := SpF (fun s : Sea => [bagI, dt (dSea s), dt (.int 3)]) wet fun s => exI (fun t : Tr => dt (dTour t)) (TourOk s)
theorem sc_law_tour : FnScope ["_law_bag_here", "_law_sea_here", "_law_share", "_law_cells_here", "_law_end", "_law_early", "_law_late", "_law_banned"] ["_law_bag_here", "_law_sea_here", "_law_share"] (defScope s__law_tour) := C8.fnScope_by (by decide +kernel)
theorem ok_law_tour (T : Bt mg) (c_law_pull : C8.Cal P w K mg base 1 "_law_pull" spPull []) (c_law_of : C8.Cal P w K mg base 2 "_law_of" spOf []) (c_law_cells : C8.Cal P w K mg base 1 "_law_cells" spCells []) (c_law_spots : C8.Cal P w K mg base 2 "_law_spots" spSpots []) (c_law_chosen : C8.Cal P w K mg base 2 "_law_chosen" spChosen []) (F : Dfn K mg "_law_tour" s__law_tour ["_law_bag_here", "_law_sea_here", "_law_share"]) : C8.Cal P w K mg base 3 "_law_tour" spTour [] := by
  have sc := sc_law_tour
  refine F.cal sc (SpF.len fun _ => rfl) fun f cdv A outer s H vs Q E hr hsp => ?_
  refine ⟨_, (pss_cons (ps_par3 (i := 3) (j := 4) (l := 5) rfl sc.nd rfl rfl rfl (by decide) (by decide) (by decide) rfl rfl rfl (pa_cons (C8.pe_c c_law_cells hr (by decide) (by rfl) (pa_cons (pv 1) pa_nil)) (pa_cons (pe_callB call_len_seq (by rfl) T.n_len bb_len (pa_cons (pe_ix ix_tup (pv 1) pe_int (fun _ _ => rfl)) pa_nil)) (pa_cons pe_int pa_nil))) rfl)
    (pss_cons (ps_if (pt_cmpR op_eq (C8.pe_c c_law_pull hr (by decide) (by rfl) (pa_cons (pv 0) (pa_cons pe_int pa_nil))) pe_int (nomark _)) (pss_one (ps_set (i := 5) sc.nd rfl (by first | exact Or.inl rfl | exact Or.inr rfl) (C8.pe_c c_law_pull hr (by decide) (by rfl) (pa_cons (pv 0) (pa_cons (pe_op op_add (pv 4) pe_int) pa_nil))))) pss_nil)
    (pss_cons (ps_set (i := 6) sc.nd rfl (by first | exact Or.inl rfl | exact Or.inr rfl) (pe_ifExp (pt_cmpR op_eq (C8.pe_c c_law_pull hr (by decide) (by rfl) (pa_cons (pv 0) (pa_cons pe_int pa_nil))) pe_int (nomark _)) (pe_op op_add (pv 5) (C8.pe_c c_law_pull hr (by decide) (by rfl) (pa_cons (pv 0) (pa_cons (pe_op op_add (pe_op op_sub (pv 4) (pv 5)) pe_int) pa_nil)))) (pv 4)))
    (pss_cons (ps_set (i := 7) sc.nd rfl (by first | exact Or.inl rfl | exact Or.inr rfl) (pe_ifExp (pt_cmpR op_eq (C8.pe_c c_law_pull hr (by decide) (by rfl) (pa_cons (pv 0) (pa_cons (pv 2) pa_nil))) pe_int (nomark _)) (C8.pe_c c_law_chosen hr (by decide) (by rfl) (pa_cons (pv 0) (pa_cons (C8.pe_c c_law_spots hr (by decide) (by rfl) (pa_cons (pv 1) pa_nil)) (pa_cons pe_int pa_nil)))) pe_non))
    (pss_one (ps_ret (pe_tup (pa_cons (C8.pe_c c_law_of hr (by decide) (by rfl) (pa_cons (pv 0) (pa_cons (pv 3) pa_nil))) (pa_cons (C8.pe_c c_law_of hr (by decide) (by rfl) (pa_cons (pv 0) (pa_cons (pv 3) pa_nil))) (pa_cons (pv 5) (pa_cons (pv 6) (pa_cons (pv 7) pa_nil)))))))))))), ?_⟩
  obtain ⟨x, B, hp, s0, ha, q⟩ := hsp
  dsimp only at hp ha q
  obtain ⟨v1, v2, v3, rfl, h1, h2, h3⟩ := ita3 ha
  obtain rfl := Rp.int_eq h3
  have ok : SeaOk x := hp.1
  have hgl := ok.gl
  have hE : x.last = (x.gusts.length : Int) := rfl
  refine s_par3 (ea_cons (ev_call x (ea1 (ev_var h2)) ok) (ea_cons (ev_lenL (sea_gusts (ev_var (I := dt (dSea x)) h2))) (ea1 (ev_int (i := 0))))) s0 fun vc ve vz B1 H1 g1 pc pe pz => ?_
  obtain rfl := Rp.int_eq pe
  obtain rfl := Rp.int_eq pz
  rw [List.length_map]
  have hb1 := bagI.mono g1.base h1
  refine s_ifX (ex_eq (f := fun k : Int => k) (ev_call (4 : Int) (ea_cons (ev_var hb1) (ea1 (ev_int (i := 4)))) ⟨by decide, by decide⟩) (ev_int (i := 0))) g1.sub
    (fun σ' H' => ∃ (B' : Hp) (e : Int), Grow B H B' H' ∧ Same B1 B' ∧ σ' = [some v1, some v2, some (.int 3), some vc, some (.int x.gusts.length), some (.int e), none, none] ∧ 0 ≤ e ∧ e ≤ x.gusts.length)
    (fun _ B2 H2 g2 N hN => ?_) (fun _ B2 H2 g2 => ⟨B2, 0, g1.trans g2, g2.base, rfl, by omega, by omega⟩) ?_
  · refine s_set1 (ev_call ((x.gusts.length : Int) + 1) (ea_cons (ev_var (bagI.mono g2.base hb1)) (ea1 (ev_i (g := fun i j => i + j) (ev_var (I := dt (.int x.gusts.length)) (.int _)) (ev_int (i := 1))))) ⟨by omega, by omega⟩) g2.sub fun v B3 H3 g3 ⟨e, ⟨e0, e1⟩, pe⟩ => ?_
    obtain rfl := Rp.int_eq pe
    exact hN _ _ ⟨B3, e, (g1.trans g2).trans g3, g2.base.trans g3.base, rfl, e0, by omega⟩
  rintro σ' H2 ⟨B2, e, g2, s12, rfl, e0, e1⟩
  have hb2 := bagI.mono s12 hb1
  have pull : ∀ {A : Hp} {te : TE} {σ : L2.St} {m : Int}, Same B2 A → σ[0]? = some (some v1) → EvD te σ A (.int m) → 0 < m ∧ m ≤ 1000 → Ev (tCall spPull [] C8.E0 (tCons (tVar 0) (tCons te tNil))) σ A (exI (fun k : Int => dt (.int k)) fun k => 0 ≤ k ∧ k < m) := fun s hs he hm => ev_call _ (ea_cons (ev_var (bagI.mono s hb2) hs) (ea1 he)) hm
  refine s_set (I := exI (fun l : Int => dt (.int l)) fun l => e ≤ l ∧ l ≤ x.last) (ev_ifX (ex_eq (f := fun k : Int => k) (pull (Same.refl _) rfl (ev_int (i := 4)) ⟨by decide, by decide⟩) (ev_int (i := 0))) (ev_opE (F := fun k : Int => dt (.int k)) (ev_var (I := dt (.int e)) (.int e)) (pull (Same.refl _) rfl (ev_i (g := fun i j => i + j) (ev_i (g := fun i j => i - j) (ev_var (I := dt (.int x.gusts.length)) (.int _)) (ev_var (I := dt (.int e)) (.int e))) (ev_int (i := 1))) ⟨by omega, by omega⟩) fun k hk x' y A H s px py Q q => ?_) (Ev.imp (ev_var (I := dt (.int x.gusts.length)) (.int _)) fun v A r => ⟨_, ⟨by omega, by omega⟩, r⟩)) g2.sub fun vl B3 H3 g3 ⟨l, ⟨l0, l1⟩, pl⟩ => ?_
  · obtain rfl := Rp.int_eq px
    obtain rfl := Rp.int_eq py
    exact ⟨e, k, rfl, rfl, q _ A H (Grow.refl s) ⟨e + k, ⟨by omega, by omega⟩, .int _⟩⟩
  obtain rfl := Rp.int_eq pl
  have h2' : Rp B3 v2 (dSea x) := Rp.mono (Sd.of ((g1.base.trans s12).trans g3.base)) h2
  refine s_set (I := exI (fun o : Option (List Place) => dt (dBan o)) (banOk x)) (ev_ifX (ex_eq (f := fun k : Int => k) (pull g3.base rfl (ev_var (I := dt (.int 3)) (.int 3)) ⟨by decide, by decide⟩) (ev_int (i := 0))) (Ev.imp (ev_call (spots x, (5 : Int)) (ea_cons (ev_var (bagI.mono g3.base hb2)) (ea_cons (ev_call x (ea1 (ev_var (I := dt (dSea x)) h2')) ok) (ea1 (ev_int (i := 5))))) ⟨⟨by show (0 : Int) < 5; decide, by show (5 : Int) ≤ 1000; decide⟩, ?_⟩) fun v A ⟨ps, ⟨p1, p2⟩, r⟩ => ⟨some ps, fun qs e => ?_, r⟩) (Ev.imp ev_non fun v A r => ⟨none, (fun qs e => nomatch e), r⟩)) g3.sub fun vn B4 H4 g4 ⟨o, ho, pn⟩ => ?_
  · exact Nat.le_trans (spots_len ok) (by decide)
  · cases e
    exact ⟨Nat.le_trans p2 (Nat.le_trans (spots_len ok) (by decide)), p1⟩
  have s14 : Same B1 B4 := s12.trans (g3.base.trans g4.base)
  have pc4 : Rp B4 vc (.list ((cells x).map dC)) := Rp.mono (Sd.of s14) pc
  have hcl := cells_len ok
  have hof : Ev (tCall spOf [] C8.E0 (tCons (tVar 0) (tCons (tVar 3) tNil))) [some v1, some v2, some (.int 3), some vc, some (.int x.gusts.length), some (.int e), some (.int l), some vn] B4 (exI (fun c : Cell => dt (dC c)) fun c => c ∈ cells x) :=
    Ev.imp (ev_call ((cells x).map dC) (ea_cons (ev_var (bagI.mono s14 hb1)) (ea1 (ev_var (I := dt (.list ((cells x).map dC))) pc4))) ⟨by rw [List.length_map]; exact cells_ne hp, by rw [List.length_map]; omega⟩) fun v A ⟨d, hd, r⟩ => by
      obtain ⟨c, hc, rfl⟩ := List.mem_map.mp hd
      exact ⟨c, hc, r⟩
  refine s_ret (Ev.imp (J := exI (fun t : Tr => dt (dTour t)) (TourOk x)) (ev_tupE (f := fun t : Tr => [dC t.a, dC t.b, .int t.e, .int t.l, dBan t.ban]) (pre := TourOk x) (ea_cons hof (ea_cons hof (ea_cons (ev_var (I := dt (.int e)) (.int e)) (ea_cons (ev_var (I := dt (.int l)) (.int l)) (ea1 (ev_var (I := dt (dBan o)) pn)))))) (fun vs A hvs => ?_) fun i _ => by show 5 ≤ 100000; decide) fun v A ⟨t, ht, r⟩ => ⟨t, ht, r⟩) ((g2.trans g3).trans g4).sub fun v B5 H5 g5 p5 => q v B5 H5 (((g2.trans g3).trans g4).trans g5) p5
  obtain ⟨a1, a2, a3, a4, a5, rfl, ⟨a, ha, h1⟩, ⟨b, hb, h2⟩, h3, h4, h5⟩ := ita5 hvs
  exact ⟨⟨x, a, b, e, l, o⟩, ⟨⟨ok, ha, hb, e0, l0, l1⟩, rfl, ho⟩, .cons h1 (.cons h2 (.cons h3 (.cons h4 (.cons h5 .nil))))⟩
end
end Sky

set_option Elab.async false
set_option linter.all false
set_option maxRecDepth 100000
set_option maxHeartbeats 4000000
/-! The law's bent track. -/
namespace Sky
open PySem PySem.Spec PyProof.Rows L2
/-- plain data of small depth -/
def Lay (n : Nat) (d : PyData) : Prop := d.canLay0 = true ∧ d.depth ≤ n
theorem Lay.up {n m : Nat} {d : PyData} (h : Lay n d) (k : n ≤ m) : Lay m d := ⟨h.1, Nat.le_trans h.2 k⟩
theorem lay_all' {n : Nat} : ∀ {ds : List PyData}, (∀ d ∈ ds, Lay n d) → PyData.canLayAll0 ds = true ∧ PyData.depthAll ds ≤ n
  | [], _ => ⟨by simp [PyData.canLayAll0], by simp [PyData.depthAll]⟩
  | d :: ds, h => by
    obtain ⟨h1, h2⟩ := lay_all' fun e he => h e (List.mem_cons_of_mem _ he)
    obtain ⟨h3, h4⟩ := h d (List.mem_cons_self ..)
    refine ⟨by simp only [PyData.canLayAll0, h1, h3, Bool.and_true], ?_⟩
    simp only [PyData.depthAll]
    omega
theorem lay_list {n : Nat} {ds : List PyData} (h : ∀ d ∈ ds, Lay n d) : Lay (n + 1) (.list ds) := by
  obtain ⟨h1, h2⟩ := lay_all' h
  refine ⟨by simp only [PyData.canLay0]; exact h1, ?_⟩
  simp only [PyData.depth]
  omega
theorem lay_tup {n : Nat} {ds : List PyData} (h : ∀ d ∈ ds, Lay n d) : Lay (n + 1) (.tuple ds) := by
  obtain ⟨h1, h2⟩ := lay_all' h
  refine ⟨by simp only [PyData.canLay0]; exact h1, ?_⟩
  simp only [PyData.depth]
  omega
theorem lay_int (i : Int) : Lay 0 (.int i) := ⟨by simp [PyData.canLay0], by simp [PyData.depth]⟩
theorem lay_bool (i : Bool) : Lay 0 (.bool i) := ⟨by simp [PyData.canLay0], by simp [PyData.depth]⟩
theorem lay_none : Lay 0 .none := ⟨by simp [PyData.canLay0], by simp [PyData.depth]⟩
theorem lay_str {x : Str} (h : PyData.strOk x = true) : Lay 0 (.str x) := ⟨by simp only [PyData.canLay0]; exact h, by simp [PyData.depth]⟩
theorem lay_P (p : Place) : Lay 1 (dP p) := ⟨lay_dP p, dep_dP p⟩
/-- what a bent track may be -/
def LateOk (d : PyData) : Prop := (seqOf d = none ∧ Lay 0 d) ∨ ∃ xs, (d = .list xs ∨ d = .tuple xs) ∧ xs.length ≤ 10 ∧ ∀ e ∈ xs, Lay 2 e
theorem LateOk.list {xs : List PyData} (h : xs.length ≤ 10) (k : ∀ e ∈ xs, Lay 2 e) : LateOk (.list xs) := .inr ⟨xs, .inl rfl, h, k⟩
theorem LateOk.tuple {xs : List PyData} (h : xs.length ≤ 10) (k : ∀ e ∈ xs, Lay 2 e) : LateOk (.tuple xs) := .inr ⟨xs, .inr rfl, h, k⟩
theorem LateOk.lay {d : PyData} (h : LateOk d) : Lay 3 d := by
  rcases h with ⟨_, h⟩ | ⟨xs, rfl | rfl, _, h⟩
  · exact h.up (by omega)
  · exact lay_list h
  · exact lay_tup h
theorem LateOk.seq {d : PyData} (h : LateOk d) {xs : List PyData} (e : seqOf d = some xs) : xs.length ≤ 10 ∧ ∀ e ∈ xs, Lay 2 e := by
  rcases h with ⟨h1, _⟩ | ⟨ys, rfl | rfl, h1, h2⟩
  · rw [h1] at e
    cases e
  · cases e
    exact ⟨h1, h2⟩
  · cases e
    exact ⟨h1, h2⟩
theorem cutD_mem {ds : List PyData} {lo hi : Option Int} {d : PyData} (h : d ∈ cutD ds lo hi) : d ∈ ds := List.mem_of_mem_drop (List.mem_of_mem_take h)
theorem cutD_len (ds : List PyData) (lo hi : Option Int) : (cutD ds lo hi).length ≤ ds.length := by
  unfold cutD
  rw [List.length_take, List.length_drop]
  omega
def lateI : Item := exI (fun d : PyData => dt d) LateOk
section
variable {P : Program} {w : World} {K : PySem.W.Frag} {mg : Str → Option Value} {base : Heap} {W : Wd}
section
variable {σ : L2.St} {B : Hp} {te ta tb : TE} {ds es : List PyData}
theorem ev_revL (h : EvD te σ B (.list ds)) : EvD (tRevL K te) σ B (.list ds.reverse) := fun H1 s Q q =>
  h H1 s _ fun v B2 H2 g2 p2 => by
    obtain ⟨a, xs, rfl, e, r⟩ := Rp.lst_eq p2
    exact ⟨a, xs, rfl, SqL.of (g2.sub _ _ e), fun p hp => q _ _ _ (g2.trans (Grow.alloc g2.sub hp)) (.lst upd_same (r.rev.mono (Sd.of (same_new (g2.sub.free hp)))))⟩
theorem ev_cat (h : EvD ta σ B (.list ds)) (k : EvD tb σ B (.list es)) (hl : ds.length + es.length ≤ 100000) : EvD (tOp rCat ta tb) σ B (.list (ds ++ es)) := ev_op h k (rv_cat hl)
end
abbrev spBent : Sp := SpF (fun x : Sea × List Place => [bagI, dt (dSea x.1), dt (dPs x.2)]) (fun x => wet x.1 ∧ 0 < x.2.length ∧ x.2.length ≤ 4) fun _ => lateI
def odd6 (p : Place) : List PyData := [.none, .int 3, .list [.int p.1, .int p.2.1, .int p.2.2], .tuple [.int p.1, .int p.2.1, .int p.2.2, .int 0], dP (9, 9, 9), .tuple [.bool true, .int 0, .int 0]]
theorem odd6_ok {p : Place} {d : PyData} (h : d ∈ odd6 p) : Lay 2 d := by
  simp only [odd6, List.mem_cons, List.not_mem_nil, or_false] at h
  have hi : ∀ i : Int, Lay 1 (.int i) := fun i => (lay_int i).up (by omega)
  rcases h with rfl | rfl | rfl | rfl | rfl | rfl
  · exact lay_none.up (by omega)
  · exact (lay_int 3).up (by omega)
  · refine lay_list fun e he => ?_
    simp only [List.mem_cons, List.not_mem_nil, or_false] at he
    rcases he with rfl | rfl | rfl <;> exact hi _
  · refine lay_tup fun e he => ?_
    simp only [List.mem_cons, List.not_mem_nil, or_false] at he
    rcases he with rfl | rfl | rfl | rfl <;> exact hi _
  · exact (lay_P _).up (by omega)
  · refine lay_tup fun e he => ?_
    simp only [List.mem_cons, List.not_mem_nil, or_false] at he
    rcases he with rfl | rfl | rfl
    · exact (lay_bool true).up (by omega)
    · exact hi _
    · exact hi _
def odd6b (w : List Place) : List PyData := [.none, .list [], .tuple [], .str "way", .int 7, .tuple (w.map dP)]
theorem dPs_lay {w : List Place} : ∀ e ∈ w.map dP, Lay 2 e := fun e he => by
  obtain ⟨p, _, rfl⟩ := List.mem_map.mp he
  exact (lay_P p).up (by omega)
theorem odd6b_ok {w : List Place} (hl : w.length ≤ 10) {d : PyData} (h : d ∈ odd6b w) : LateOk d := by
  simp only [odd6b, List.mem_cons, List.not_mem_nil, or_false] at h
  rcases h with rfl | rfl | rfl | rfl | rfl | rfl
  · exact .inl ⟨rfl, lay_none⟩
  · exact .list (by show 0 ≤ 10; decide) fun e h => nomatch h
  · exact .tuple (by show 0 ≤ 10; decide) fun e h => nomatch h
  · exact .inl ⟨rfl, lay_str (by decide +kernel)⟩
  · exact .inl ⟨rfl, lay_int 7⟩
  · exact .tuple (by rw [List.length_map]; exact hl) dPs_lay
theorem sc_law_bent_track : FnScope ["_law_bag_here", "_law_sea_here", "_law_track", "_law_k", "_law_way", "_law_spot", "_law_turned"] ["_law_bag_here", "_law_sea_here", "_law_track"] (defScope s__law_bent_track) := C8.fnScope_by (by decide +kernel)
theorem ok_law_bent_track (T : Bt mg) (c_law_pull : C8.Cal P w K mg base 1 "_law_pull" spPull []) (c_law_of : C8.Cal P w K mg base 2 "_law_of" spOf []) (c_law_spots : C8.Cal P w K mg base 2 "_law_spots" spSpots []) (F : Dfn K mg "_law_bent_track" s__law_bent_track ["_law_bag_here", "_law_sea_here", "_law_track"]) : C8.Cal P w K mg base 3 "_law_bent_track" spBent [] := by
  have sc := sc_law_bent_track
  refine F.cal sc (SpF.len fun _ => rfl) fun f cdv A outer s H vs Q E hr hsp => ?_
  refine ⟨_, (pss_cons (ps_par (i := 3) (j := 4) rfl sc.nd rfl rfl (by decide) rfl rfl (pa_cons (C8.pe_c c_law_pull hr (by decide) (by rfl) (pa_cons (pv 0) (pa_cons (pe_callB call_len_seq (by rfl) T.n_len bb_len (pa_cons (pv 2) pa_nil)) pa_nil))) (pa_cons (C8.pe_c c_law_pull hr (by decide) (by rfl) (pa_cons (pv 0) (pa_cons pe_int pa_nil))) pa_nil)) rfl)
    (pss_cons (ps_par (i := 5) (j := 6) rfl sc.nd rfl rfl (by decide) rfl rfl (pa_cons (C8.pe_c c_law_of hr (by decide) (by rfl) (pa_cons (pv 0) (pa_cons (C8.pe_c c_law_spots hr (by decide) (by rfl) (pa_cons (pv 1) pa_nil)) pa_nil))) (pa_cons (pe_revL (pv 2)) pa_nil)) rfl)
    (pss_cons (ps_if (pt_cmpR op_eq (pv 4) pe_int (nomark _)) (pss_one (ps_ret (pe_op op_cat (pe_slice sl_list (pv 2) po_none (po_some (pv 3))) (pe_slice sl_list (pv 2) (po_some (pe_op op_add (pv 3) pe_int)) po_none)))) pss_nil)
    (pss_cons (ps_if (pt_cmpR op_eq (pv 4) pe_int (nomark _)) (pss_one (ps_ret (pe_op op_cat (pe_op op_cat (pe_slice sl_list (pv 2) po_none (po_some (pv 3))) (pe_lst (pa_cons (pe_ix ix_list (pv 2) (pv 3) (fun _ _ => rfl)) pa_nil))) (pe_slice sl_list (pv 2) (po_some (pv 3)) po_none)))) pss_nil)
    (pss_cons (ps_if (pt_cmpR op_lt (pv 4) pe_int (nomark _)) (pss_one (ps_ret (pe_op op_cat (pe_op op_cat (pe_slice sl_list (pv 2) po_none (po_some (pv 3))) (pe_lst (pa_cons (pv 5) pa_nil))) (pe_slice sl_list (pv 2) (po_some (pe_op op_add (pv 3) pe_int)) po_none)))) pss_nil)
    (pss_cons (ps_if (pt_cmpR op_eq (pv 4) pe_int (nomark _)) (pss_one (ps_ret (pe_op op_cat (pe_op op_cat (pe_slice sl_list (pv 2) po_none (po_some (pv 3))) (pe_lst (pa_cons (C8.pe_c c_law_of hr (by decide) (by rfl) (pa_cons (pv 0) (pa_cons (pe_lst (pa_cons pe_non (pa_cons pe_int (pa_cons (pe_callTy call_list_of (by rfl) T.n_list bb_list (pa_cons (pe_ix ix_list (pv 2) (pv 3) (fun _ _ => rfl)) pa_nil)) (pa_cons (pe_op op_catT (pe_ix ix_list (pv 2) (pv 3) (fun _ _ => rfl)) (pe_tup (pa_cons pe_int pa_nil))) (pa_cons (pe_tup (pa_cons pe_int (pa_cons pe_int (pa_cons pe_int pa_nil)))) (pa_cons (pe_tup (pa_cons pe_bl (pa_cons pe_int (pa_cons pe_int pa_nil)))) pa_nil))))))) pa_nil))) pa_nil))) (pe_slice sl_list (pv 2) (po_some (pe_op op_add (pv 3) pe_int)) po_none)))) pss_nil)
    (pss_cons (ps_if (pt_cmpR op_eq (pv 4) pe_int (nomark _)) (pss_one (ps_ret (pv 6))) pss_nil)
    (pss_one (ps_ret (pe_ifExp (pt_cmpR op_eq (pv 4) pe_int (nomark _)) (C8.pe_c c_law_of hr (by decide) (by rfl) (pa_cons (pv 0) (pa_cons (pe_lst (pa_cons pe_non (pa_cons (pe_lst pa_nil) (pa_cons (pe_tup pa_nil) (pa_cons pe_str (pa_cons pe_int (pa_cons (pe_callTy call_tuple_of (by rfl) T.n_tuple bb_tuple (pa_cons (pv 2) pa_nil)) pa_nil))))))) pa_nil))) (pv 2))))))))))), ?_⟩
  obtain ⟨⟨x, tw⟩, B, hp, s0, ha, q⟩ := hsp
  dsimp only at hp ha q
  obtain ⟨v1, v2, v3, rfl, h1, h2, h3⟩ := ita3 ha
  obtain ⟨hw, hl0, hl4⟩ := hp
  have h3 : Rp B v3 (.list (tw.map dP)) := h3
  have hlen : (tw.map dP).length = tw.length := List.length_map ..
  refine s_par (I := exI (fun k : Int => dt (.int k)) fun k => 0 ≤ k ∧ k < tw.length) (J := exI (fun k : Int => dt (.int k)) fun k => 0 ≤ k ∧ k < 8) (ea_cons (ev_call (tw.length : Int) (ea_cons (ev_var h1) (ea1 ((ev_lenL (ev_var (I := dt (.list (tw.map dP))) h3)).is (by rw [hlen])))) ⟨by omega, by omega⟩) (ea1 (ev_call (8 : Int) (ea_cons (ev_var h1) (ea1 (ev_int (i := 8)))) ⟨by decide, by decide⟩))) s0 fun vk vj B1 H1 g1 ⟨k, ⟨k0, k1⟩, pk⟩ ⟨j, ⟨j0, j1⟩, pj⟩ => ?_
  obtain rfl := Rp.int_eq pk
  obtain rfl := Rp.int_eq pj
  obtain ⟨n, rfl⟩ := Int.eq_ofNat_of_zero_le k0
  have hn : n < tw.length := by omega
  have hb1 := bagI.mono g1.base h1
  have h2' : Rp B1 v2 (dSea x) := Rp.mono (Sd.of g1.base) h2
  have h3' : Rp B1 v3 (.list (tw.map dP)) := Rp.mono (Sd.of g1.base) h3
  have hsp := spots_len hw.1
  have hsp0 : 0 < (spots x).length := by
    obtain ⟨c, hc⟩ := List.exists_mem_of_length_pos (cells_ne hw)
    refine List.length_pos_of_mem (mem_spots (p := ((0 : Int), c)).mpr ⟨by show (0 : Int) ≤ 0; omega, by show (0 : Int) ≤ x.last; unfold Sea.last; omega, hc⟩)
  refine s_par (I := exI (fun p : Place => dt (dP p)) fun _ => True) (J := dt (.list (tw.map dP).reverse)) (ea_cons (Ev.imp (ev_call ((spots x).map dP) (ea_cons (ev_var hb1) (ea1 (ev_call x (ea1 (ev_var (I := dt (dSea x)) h2')) hw.1))) ⟨by rw [List.length_map]; exact hsp0, by rw [List.length_map]; omega⟩) fun v A ⟨d, hd, r⟩ => ?_) (ea1 (ev_revL (ev_var (I := dt (.list (tw.map dP))) h3')))) g1.sub fun vs vt B2 H2 g2 ⟨p, _, ps⟩ pt => ?_
  · obtain ⟨p, _, rfl⟩ := List.mem_map.mp hd
    exact ⟨p, trivial, r⟩
  have g12 := g1.trans g2
  have hb2 := bagI.mono g2.base hb1
  have h32 : Rp B2 v3 (.list (tw.map dP)) := Rp.mono (Sd.of g2.base) h3'
  have fin : ∀ {tu : TE} {D : Ends} {σ : L2.St} {B3 H3 : Hp}, (∀ v H', D.rt v H' = Q v H') → Grow B2 H2 B3 H3 → Ev tu σ B3 lateI → tRet tu D σ H3 := fun hD g3 h => h _ g3.sub _ fun v B4 H4 g4 p4 => by
    rw [hD]
    exact q v B4 H4 ((g12.trans g3).trans g4) p4
  have pre : ∀ {A σ}, Same B2 A → σ[2]? = some (some v3) → σ[3]? = some (some (.int (n : Nat))) → EvD (tSl (rSlL K) (tVar 2) tNoPart (tPart (tVar 3))) σ A (.list (cutD (tw.map dP) none (some (n : Nat)))) := fun s e2 e3 => ev_slL (ev_var (I := dt (.list (tw.map dP))) (Rp.mono (Sd.of s) h32) e2) eo_none (eo_some (ev_var (I := dt (.int (n : Nat))) (.int _) e3))
  have suf : ∀ {A σ}, Same B2 A → σ[2]? = some (some v3) → σ[3]? = some (some (.int (n : Nat))) → EvD (tSl (rSlL K) (tVar 2) (tPart (tOp (rI0 fun i j => .int (i + j)) (tVar 3) (tC (.int 1)))) tNoPart) σ A (.list (cutD (tw.map dP) (some ((n : Nat) + 1)) none)) := fun s e2 e3 => ev_slL (ev_var (I := dt (.list (tw.map dP))) (Rp.mono (Sd.of s) h32) e2) (eo_some (ev_i (g := fun i j => i + j) (ev_var (I := dt (.int (n : Nat))) (.int _) e3) (ev_int (i := 1)))) eo_none
  have at3 : ∀ {A σ}, Same B2 A → σ[2]? = some (some v3) → σ[3]? = some (some (.int (n : Nat))) → EvD (tOp (rIxL K) (tVar 2) (tVar 3)) σ A (dP tw[n]) := fun s e2 e3 => ev_ixL (ev_var (I := dt (.list (tw.map dP))) (Rp.mono (Sd.of s) h32) e2) (ev_var (I := dt (.int (n : Nat))) (.int _) e3) (atI_nat (by rw [List.getElem?_map, List.getElem?_eq_getElem hn]; rfl))
  have cl := cutD_len (tw.map dP)
  have cm : ∀ {lo hi} (e : PyData), e ∈ cutD (tw.map dP) lo hi → Lay 2 e := fun e he => dPs_lay e (cutD_mem he)
  rw [hlen] at cl
  -- three parts
  have three : ∀ {σ A te} {d : PyData} {lo : Option Int} {tl : TE}, EvD te σ A (.list [d]) → EvD (tSl (rSlL K) (tVar 2) tNoPart (tPart (tVar 3))) σ A (.list (cutD (tw.map dP) none (some (n : Nat)))) → EvD tl σ A (.list (cutD (tw.map dP) lo none)) → Lay 2 d →
      Ev (tOp rCat (tOp rCat (tSl (rSlL K) (tVar 2) tNoPart (tPart (tVar 3))) te) tl) σ A lateI := fun {σ A te d lo tl} hd hpre hsuf hlay => by
    have c1 := cl none (some (n : Nat))
    have c2 := cl lo none
    refine Ev.imp (ev_cat (ev_cat hpre hd (by rw [List.length_singleton]; omega)) hsuf (by rw [List.length_append, List.length_singleton]; omega)) fun v A r => ⟨_, .list (by rw [List.length_append, List.length_append, List.length_singleton]; omega) fun e he => ?_, r⟩
    rcases List.mem_append.mp he with he | he
    · rcases List.mem_append.mp he with he | he
      · exact cm e he
      · rw [List.mem_singleton.mp he]
        exact hlay
    · exact cm e he
  have tst : ∀ {A σ} (i : Int), σ[4]? = some (some (.int j)) → EvT (tTest (tOp rEq (tVar 4) (tC (.int i)))) σ A (decide (j = i)) := fun i e => et_test (ev_eqI (ev_var (I := dt (.int j)) (.int j) e) (ev_int (i := i)))
  refine s_if1 (tst 0 rfl) g2.sub (fun _ B3 H3 g3 => ?_) fun _ B3 H3 g3 => ?_
  · refine fin (fun _ _ => rfl) g3 (Ev.imp (ev_cat (pre g3.base rfl rfl) (suf g3.base rfl rfl) ?_) fun v A r => ⟨_, .list ?_ fun e he => ?_, r⟩)
    · have c1 := cl none (some (n : Nat))
      have c2 := cl (some ((n : Nat) + 1)) none
      omega
    · have c1 := cl none (some (n : Nat))
      have c2 := cl (some ((n : Nat) + 1)) none
      rw [List.length_append]
      omega
    · rcases List.mem_append.mp he with he | he <;> exact cm e he
  refine s_if1 (tst 1 rfl) g3.sub (fun _ B4 H4 g4 => ?_) fun _ B4 H4 g4 => ?_
  · have g34 := g3.trans g4
    exact fin (fun _ _ => rfl) g34 (three (lo := some (n : Nat)) (ev_lst (ds := [dP tw[n]]) (ea1 (at3 g34.base rfl rfl)) (by show 1 ≤ 100000; decide)) (pre g34.base rfl rfl) (ev_slL (ev_var (I := dt (.list (tw.map dP))) (Rp.mono (Sd.of g34.base) h32)) (eo_some (ev_var (I := dt (.int (n : Nat))) (.int _))) eo_none) ((lay_P _).up (by omega)))
  have g34 := g3.trans g4
  refine s_if1 (b := decide (j < 4)) (et_test (ev_ib (g := fun i j => decide (i < j)) (ev_var (I := dt (.int j)) (.int j)) (ev_int (i := 4)))) g4.sub (fun _ B5 H5 g5 => ?_) fun _ B5 H5 g5 => ?_
  · have g35 := g34.trans g5
    exact fin (fun _ _ => rfl) g35 (three (lo := some ((n : Nat) + 1)) (ev_lst (ds := [dP p]) (ea1 (ev_var (I := dt (dP p)) (Rp.mono (Sd.of g35.base) ps))) (by show 1 ≤ 100000; decide)) (pre g35.base rfl rfl) (suf g35.base rfl rfl) ((lay_P _).up (by omega)))
  have g35 := g34.trans g5
  refine s_if1 (tst 4 rfl) g5.sub (fun _ B6 H6 g6 => ?_) fun _ B6 H6 g6 => ?_
  · have g36 := g35.trans g6
    have h36 := bagI.mono g36.base hb2
    have hat := at3 (σ := [some v1, some v2, some v3, some (.int (n : Nat)), some (.int j), some vs, some vt]) g36.base rfl rfl
    have hmid : Ev (tCall spOf [] C8.E0 (tCons (tVar 0) (tCons (tLst (tCons (tC .non) (tCons (tC (.int 3)) (tCons (tCB (rLs K) (tCons (tOp (rIxL K) (tVar 2) (tVar 3)) tNil)) (tCons (tOp (rCatT K) (tOp (rIxL K) (tVar 2) (tVar 3)) (tTup (tCons (tC (.int 0)) tNil))) (tCons (tTup (tCons (tC (.int 9)) (tCons (tC (.int 9)) (tCons (tC (.int 9)) tNil)))) (tCons (tTup (tCons (tC (.bl true)) (tCons (tC (.int 0)) (tCons (tC (.int 0)) tNil)))) tNil))))))) tNil))) [some v1, some v2, some v3, some (.int (n : Nat)), some (.int j), some vs, some vt] B6 (exI (fun d : PyData => dt d) (Lay 2)) := by
      refine Ev.imp (ev_call (odd6 tw[n]) (ea_cons (ev_var h36) (ea1 (ev_lst (ds := odd6 tw[n]) (ea_cons ev_non (ea_cons (ev_int (i := 3)) (ea_cons (ev_cb (ea1 hat) rc_listT) (ea_cons (ev_op hat (ev_tup (ds := [.int 0]) (ea1 ev_int) (by show 1 ≤ 100000; decide)) (rv_catT (by show 4 ≤ 100000; decide) (by simp))) (ea_cons (ev_tri ev_int ev_int ev_int) (ea_cons (ev_tup (ds := [.bool true, .int 0, .int 0]) (ea_cons ev_bl (ea_cons ev_int (ea1 ev_int))) (by show 3 ≤ 100000; decide)) ea_nil)))))) (by show 6 ≤ 100000; decide)))) ⟨by show 0 < 6; decide, by show 6 ≤ 1000; decide⟩) fun v A ⟨d, hd, r⟩ => ⟨d, odd6_ok hd, r⟩
    refine fin (fun _ _ => rfl) g36 (ev_bindE (F := fun d : PyData => dt (.list (cutD (tw.map dP) none (some (n : Nat)) ++ [d]))) (pre := Lay 2) (ev_opE (F := fun d : PyData => dt (.list [d])) (pre := Lay 2) (pre g36.base rfl rfl) (ev_lstE (ea1 hmid) (fun vs A hvs => ?_) fun _ _ => by show 1 ≤ 100000; decide) fun d hd => ?_) (suf g36.base rfl rfl) fun d hd => ?_)
    · obtain ⟨y, rfl, d, hd, r⟩ := ita1 hvs
      exact ⟨d, hd, .one r⟩
    · have c1 := cl none (some (n : Nat))
      exact fun x y A H s px py Q q => rv_cat (by rw [List.length_singleton]; omega) x y A H s px py Q fun v B H2 g r => q v B H2 g ⟨d, hd, r⟩
    · have c1 := cl none (some (n : Nat))
      have c2 := cl (some ((n : Nat) + 1)) none
      refine fun x y A H s px py Q q => rv_cat (by rw [List.length_append, List.length_singleton]; omega) x y A H s px py Q fun v B H2 g r => q v B H2 g ⟨_, .list (by rw [List.length_append, List.length_append, List.length_singleton]; omega) fun e he => ?_, r⟩
      rcases List.mem_append.mp he with he | he
      · rcases List.mem_append.mp he with he | he
        · exact cm e he
        · rw [List.mem_singleton.mp he]
          exact hd
      · exact cm e he
  have g36 := g35.trans g6
  refine s_if1 (tst 5 rfl) g6.sub (fun _ B7 H7 g7 => ?_) fun _ B7 H7 g7 => ?_
  · have g37 := g36.trans g7
    exact fin (fun _ _ => rfl) g37 (Ev.imp (ev_var (I := dt (.list (tw.map dP).reverse)) (Rp.mono (Sd.of g37.base) pt)) fun v A r => ⟨_, .list (by rw [List.length_reverse, hlen]; omega) fun e he => dPs_lay e (List.mem_reverse.mp he), r⟩)
  have g37 := g36.trans g7
  have h37 := bagI.mono g37.base hb2
  have r37 : Rp B7 v3 (.list (tw.map dP)) := Rp.mono (Sd.of g37.base) h32
  refine fin (fun _ _ => rfl) g37 (ev_if (tst 6 rfl) (fun _ => ?_) fun _ => Ev.imp (ev_var (I := dt (.list (tw.map dP))) r37) fun v A r => ⟨_, .list (by rw [hlen]; omega) dPs_lay, r⟩)
  refine Ev.imp (ev_call (odd6b tw) (ea_cons (ev_var h37) (ea1 (ev_lst (ds := odd6b tw) (ea_cons ev_non (ea_cons (ev_lst (ds := []) ea_nil (by decide)) (ea_cons (ev_tup (ds := []) ea_nil (by decide)) (ea_cons ev_str (ea_cons (ev_int (i := 7)) (ea_cons (ev_cb (ea1 (ev_var (I := dt (.list (tw.map dP))) r37)) rc_tuple) ea_nil)))))) (by show 6 ≤ 100000; decide)))) ⟨by show 0 < 6; decide, by show 6 ≤ 1000; decide⟩) fun v A ⟨d, hd, r⟩ => ⟨d, odd6b_ok (by omega) hd, r⟩
end
end Sky

set_option Elab.async false
set_option linter.all false
set_option maxRecDepth 100000
set_option maxHeartbeats 4000000
/-! The law's wrong place. -/
namespace Sky
open PySem PySem.Spec PyProof.Rows L2
def plP : PyData → Option Place
  | .tuple [.int a, .int b, .int c] => some (a, b, c)
  | _ => none
theorem plP_dP (p : Place) : plP (dP p) = some p := rfl
theorem plP_is {d : PyData} {p : Place} (h : plP d = some p) : d = dP p := by
  unfold plP at h
  split at h
  · cases h
    rfl
  · cases h
/-- the item at k is a place of the sea, near the one before it -/
def okB (s : Sea) (xs : List PyData) (k : Nat) : Bool := match plP (xs.getD k .none) with
  | none => false
  | some p => decide (p ∈ spots s) && (decide (k = 0) || match plP (xs.getD (k - 1) .none) with
    | none => false
    | some o => decide (p ∈ nearP s o))
def badK (s : Sea) (xs : List PyData) : Option Nat := (List.range xs.length).find? fun k => !okB s xs k
def wrongV (s : Sea) (d : PyData) : Option Int := match seqOf d with
  | none => some (-1)
  | some xs => if xs.length = 0 then some (-1) else (badK s xs).map fun k => (k : Int)
theorem find_none_of {p : Nat → Bool} {n : Nat} (h : ∀ j, j < n → p j = false) : (List.range n).find? p = none := by
  rw [List.find?_eq_none]
  intro x hx
  rw [h x (List.mem_range.mp hx)]
  exact Bool.false_ne_true
theorem find_at {p : Nat → Bool} {n k : Nat} (hk : k < n) (h : ∀ j, j < k → p j = false) (hp : p k = true) : (List.range n).find? p = some k := by
  have e : List.range n = List.range k ++ (List.range (n - k)).map (k + ·) := by
    rw [← List.range_add]
    congr 1
    omega
  rw [e, List.find?_append, find_none_of h]
  obtain ⟨m, hm⟩ : ∃ m, n - k = m + 1 := ⟨n - k - 1, by omega⟩
  rw [hm, List.range_succ_eq_map, List.map_cons, List.find?_cons]
  show (match p (k + 0) with | true => some (k + 0) | false => _) = some k
  rw [Nat.add_zero, hp]
theorem badK_none {s : Sea} {xs : List PyData} (h : ∀ j, j < xs.length → okB s xs j = true) : badK s xs = none := find_none_of fun j hj => by rw [h j hj]; rfl
theorem badK_at {s : Sea} {xs : List PyData} {k : Nat} (hk : k < xs.length) (h : ∀ j, j < k → okB s xs j = true) (hb : okB s xs k = false) : badK s xs = some k := find_at hk (fun j hj => by rw [h j hj]; rfl) (by rw [hb]; rfl)
theorem badK_all {s : Sea} {xs : List PyData} (h : badK s xs = none) : ∀ j, j < xs.length → okB s xs j = true := fun j hj => by
  have := List.find?_eq_none.mp h j (List.mem_range.mpr hj)
  simpa using this
/-! ### equality with places -/
def noBool (xs : List PyData) : Bool := (xs.filter isBool).isEmpty
theorem eqv_one (i : Int) (d : PyData) (h : isBool d = false) : PyData.eqv (.int i) d = match d with
    | .int j => decide (i = j)
    | _ => false := by
  cases d with
  | int j => rw [eqv_int]
  | bool x => simp [isBool] at h
  | _ => simp [PyData.eqv]
theorem eqvA_cons (x y : PyData) (xs ys : List PyData) : PyData.eqvAll (x :: xs) (y :: ys) = (PyData.eqv x y && PyData.eqvAll xs ys) := by rw [PyData.eqvAll]
theorem eqvA_nil : PyData.eqvAll [] [] = true := by rw [PyData.eqvAll]
theorem eqv_tup (xs ys : List PyData) : PyData.eqv (.tuple xs) (.tuple ys) = PyData.eqvAll xs ys := by rw [PyData.eqv]
theorem eqv_pl {p : Place} {xs : List PyData} (hl : xs.length = 3) (hb : noBool xs = true) : PyData.eqv (dP p) (.tuple xs) = decide (plP (.tuple xs) = some p) := by
  match xs, hl with
  | [a, b, c], _ =>
    have h3 : isBool a = false ∧ isBool b = false ∧ isBool c = false := by
      cases h1 : isBool a <;> cases h2 : isBool b <;> cases h4 : isBool c <;> simp [noBool, List.filter, h1, h2, h4] at hb
      exact ⟨rfl, rfl, rfl⟩
    have e : PyData.eqv (dP p) (.tuple [a, b, c]) = (PyData.eqv (.int p.1) a && (PyData.eqv (.int p.2.1) b && PyData.eqv (.int p.2.2) c)) := by
      show PyData.eqv (.tuple [.int p.1, .int p.2.1, .int p.2.2]) _ = _
      rw [eqv_tup, eqvA_cons, eqvA_cons, eqvA_cons, eqvA_nil, Bool.and_true]
    rw [e, eqv_one _ _ h3.1, eqv_one _ _ h3.2.1, eqv_one _ _ h3.2.2]
    obtain ⟨x, y, z⟩ := p
    cases a with
    | int i => cases b with
      | int j => cases c with
        | int k =>
          rw [Bool.eq_iff_iff]
          simp only [plP, Bool.and_eq_true, decide_eq_true_eq, Option.some.injEq, Prod.mk.injEq]
          omega
        | _ => simp [plP]
      | _ => simp [plP]
    | _ => simp [plP]
theorem any_pl {l : List Place} {xs : List PyData} (hl : xs.length = 3) (hb : noBool xs = true) : (l.map dP).any (fun z => PyData.eqv z (.tuple xs)) = match plP (.tuple xs) with
    | some p => decide (p ∈ l)
    | none => false := by
  induction l with
  | nil => cases plP (.tuple xs) <;> simp
  | cons q l ih =>
    rw [List.map_cons, List.any_cons, ih, eqv_pl hl hb]
    cases plP (.tuple xs) with
    | none => simp
    | some p =>
      by_cases h : p = q
      · simp [h]
      · simp [h]
theorem dP_inj {p q : Place} (h : dP p = dP q) : p = q := by
  obtain ⟨a, b, c⟩ := p
  obtain ⟨a', b', c'⟩ := q
  simp only [dP, PyData.tuple.injEq, List.cons.injEq, PyData.int.injEq, and_true] at h
  obtain ⟨rfl, rfl, rfl⟩ := h
  rfl
def fBl (d : PyData) : Option PyData := if isBool d then some d else none
theorem fm_bl (xs : List PyData) : xs.filterMap fBl = xs.filter isBool := by
  induction xs with
  | nil => rfl
  | cons d xs ih =>
    rw [List.filterMap_cons]
    by_cases h : isBool d = true
    · rw [List.filter_cons_of_pos h, ← ih, show fBl d = some d from if_pos h]
    · rw [List.filter_cons_of_neg h, ← ih, show fBl d = none from if_neg h]
theorem ne_nil_eqv (xs : List PyData) : (!PyData.eqv (.list xs) (.list [])) = !xs.isEmpty := by
  cases xs <;> simp [PyData.eqv, PyData.eqvAll]
theorem lay_inv {n : Nat} {ys : List PyData} (h : Lay (n + 1) (.tuple ys)) : ∀ y ∈ ys, Lay n y := by
  obtain ⟨h1, h2⟩ := h
  simp only [PyData.canLay0] at h1
  simp only [PyData.depth] at h2
  have h2 : PyData.depthAll ys ≤ n := by omega
  induction ys with
  | nil => exact fun y hy => nomatch hy
  | cons a l ih =>
    simp only [PyData.canLayAll0, Bool.and_eq_true] at h1
    simp only [PyData.depthAll] at h2
    intro y hy
    rcases List.mem_cons.mp hy with rfl | hy
    · exact ⟨h1.1, by omega⟩
    · exact ih h1.2 (by omega) (by omega) y hy
theorem Lay.sh {n : Nat} {d : PyData} (h : Lay n d) (k : n ≤ 64) : SeqAt.shaped d = true := shaped_of h.1 h.2 k
theorem Lay.sh' {d : PyData} (h : Lay 2 d) : SeqAt.shaped d = true := h.sh (by decide)
def nbD : PyData → Bool
  | .tuple ys => noBool ys
  | _ => true
theorem plP_no {e : PyData} (h : (!isTup e || (!decide (lenD e = 3) || !nbD e)) = true) : plP e = none := by
  cases hp : plP e with
  | none => rfl
  | some p =>
    have := plP_is hp
    subst this
    simp [dP, isTup, lenD, nbD, noBool, isBool, List.filter] at h
theorem tup3 {e : PyData} (h : (!isTup e || (!decide (lenD e = 3) || !nbD e)) = false) : ∃ ys, e = .tuple ys ∧ ys.length = 3 ∧ noBool ys = true := by
  rw [Bool.or_eq_false_iff, Bool.or_eq_false_iff] at h
  obtain ⟨h1, h2, h3⟩ := h
  obtain ⟨ys, rfl, hl⟩ := tup_of (n := 3) (d := e) (by rw [h1]; exact h2)
  exact ⟨ys, rfl, hl, by simpa [nbD] using h3⟩
section
variable {P : Program} {w : World} {K : PySem.W.Frag} {mg : Str → Option Value} {base : Heap} {W : Wd}
abbrev spWrong : Sp := SpF (fun x : Sea × PyData => [dt (dSea x.1), dt x.2]) (fun x => SeaOk x.1 ∧ LateOk x.2) fun x => dt (dO (wrongV x.1 x.2))
theorem sc_law_wrong_at : FnScope ["_law_sea_here", "_law_value_z", "_law_spots_here", "_law_k", "_law_spot", "_law_size"] ["_law_sea_here", "_law_value_z"] (defScope s__law_wrong_at) := C8.fnScope_by (by decide +kernel)
theorem ok_law_wrong_at (T : Bt mg) (c_law_spots : C8.Cal P w K mg base 2 "_law_spots" spSpots []) (c_law_near : C8.Cal P w K mg base 2 "_law_near" spNear []) (F : Dfn K mg "_law_wrong_at" s__law_wrong_at ["_law_sea_here", "_law_value_z"]) : C8.Cal P w K mg base 3 "_law_wrong_at" spWrong [] := by
  have sc := sc_law_wrong_at
  refine F.cal sc (SpF.len fun _ => rfl) fun f cdv A outer s H vs Q E hr hsp => ?_
  refine ⟨_, (pss_cons (ps_if (PW.pt (pw_or (pt_not (pt_val (pe_callB call_isiT (by rfl) T.n_isinstance bb_isinstance (pa_cons (pv 1) (pa_cons (pe_tup (pa_cons (pe_bltn (v := .ty "list") (by rfl) T.n_list bb_list rfl) (pa_cons (pe_bltn (v := .ty "tuple") (by rfl) T.n_tuple bb_tuple rfl) pa_nil))) pa_nil))))) (pw_or1 (pt_cmpR op_eq (pe_callB call_len_seq (by rfl) T.n_len bb_len (pa_cons (pv 1) pa_nil)) pe_int (nomark _))))) (pss_one (ps_ret (pe_op op_sub pe_int pe_int))) pss_nil)
    (pss_cons (ps_set (i := 2) sc.nd rfl (by first | exact Or.inl rfl | exact Or.inr rfl) (C8.pe_c c_law_spots hr (by decide) (by rfl) (pa_cons (pv 0) pa_nil)))
    (pss_cons (ps_for PassesOwn.never rfl (pi_range1 (by rfl) T.n_range (pa_cons (pe_callB call_len_seq (by rfl) T.n_len bb_len (pa_cons (pv 1) pa_nil)) pa_nil)) (pg_name (i := 3) sc.nd rfl (by first | exact Or.inl rfl | exact Or.inr rfl))
      (pss_cons (ps_set (i := 4) sc.nd rfl (by first | exact Or.inl rfl | exact Or.inr rfl) (pe_ei (pe_ix ix_list (pv 1) (pv 3) (fun _ _ => rfl)) (pe_ix ix_tup (pv 1) (pv 3) (fun _ _ => rfl))))
      (pss_cons (ps_if (PW.pt (pw_or (pt_not (pt_val (pe_callB call_isi (by rfl) T.n_isinstance bb_isinstance (pa_cons (pv 4) (pa_cons (pe_bltn (v := .ty "tuple") (by rfl) T.n_tuple bb_tuple rfl) pa_nil))))) (pw_or (pt_cmpR op_ne (pe_callB call_len_seq (by rfl) T.n_len bb_len (pa_cons (pv 4) pa_nil)) pe_int (nomark _)) (pw_or1 (pt_cmpR (op_neD (hud hr)) (pe_lc (own := [("_law_size", 5)]) rfl sc.nd (pi_tup (pv 4)) (blkOk_by (own := [("_law_size", 5)]) (N := ["_law_sea_here", "_law_value_z", "_law_spots_here", "_law_k", "_law_spot", "_law_size"]) (sc := defScope s__law_wrong_at) (by decide +kernel)) (fun _ _ _ _ _ => (pg_name (i := 5) sc.nd rfl (by first | exact Or.inl rfl | exact Or.inr rfl))) (fun _ _ _ _ _ => (pts_one (pt_val (pe_callB (call_isiK K rfl) (by rfl) T.n_isinstance bb_isinstance (pa_cons (pv 5) (pa_cons (pe_bltn (v := .ty "bool") (by rfl) T.n_bool bb_bool rfl) pa_nil)))))) (fun _ _ _ _ _ => (pv 5))) (pe_lst pa_nil) (nomark _)))))) (pss_one (ps_ret (pv 3))) pss_nil)
      (pss_one (ps_if (PW.pt (pw_or (pt_cmpR (op_notInD (hui hr)) (pv 4) (pv 2) (by rfl)) (pw_or1 (PW.pt (pw_and (pt_cmpR op_gt (pv 3) pe_int (nomark _)) (pw_and1 (pt_cmpR (op_notInD (hui hr)) (pv 4) (C8.pe_c c_law_near hr (by decide) (by rfl) (pa_cons (pv 0) (pa_cons (pe_ei (pe_ix ix_list (pv 1) (pe_op op_sub (pv 3) pe_int) (fun _ _ => rfl)) (pe_ix ix_tup (pv 1) (pe_op op_sub (pv 3) pe_int) (fun _ _ => rfl))) pa_nil))) (by rfl)))))))) (pss_one (ps_ret (pv 3))) pss_nil)))))
    (pss_one (ps_ret pe_non))))), ?_⟩
  obtain ⟨⟨s, d⟩, B, hp, s0, ha, q⟩ := hsp
  dsimp only at hp ha q
  obtain ⟨v1, v2, rfl, h1, h2⟩ := ita2 ha
  obtain ⟨ok, hd⟩ := hp
  have neg1 : ∀ {σ : L2.St} {B}, EvD (tOp (rI0 fun i j => .int (i - j)) (tC (.int 0)) (tC (.int 1))) σ B (.int (-1)) := fun {_ _} => ev_i (g := fun i j => i - j) (ev_int (i := 0)) (ev_int (i := 1))
  cases hs : seqOf d with
  | none =>
    refine s_ifY (et_or (b := true) (c := true) ((et_not (et_B (ev_isiLT (ev_var h2)))).is (by rw [seqOf_bool, hs]; rfl)) fun e => nomatch e) s0 fun B1 H1 g1 => ?_
    refine s_retq neg1 g1.sub fun v B2 H2 g2 p2 => q v B2 H2 (g1.trans g2) ?_
    have : wrongV s d = some (-1) := by
      unfold wrongV
      rw [hs]
    rw [this]
    exact p2
  | some xs =>
    obtain ⟨hl, hlay⟩ := hd.seq hs
    have hlen0 : ∀ {σ : L2.St} {B}, σ[1]? = some (some v2) → Rp B v2 d → EvD (tCB (rLn K) (tCons (tVar 1) tNil)) σ B (.int xs.length) := fun {_ _} e r => ev_cb (ea1 (ev_var (I := dt d) r e)) (rc_lenS hs)
    refine s_if1 (b := decide ((xs.length : Int) = 0)) ((et_or (b := false) ((et_not (et_B (ev_isiLT (ev_var h2)))).is (by rw [seqOf_bool, hs]; rfl)) fun _ => et_test (ev_eqI (hlen0 rfl h2) (ev_int (i := 0)))).is (Bool.false_or _)) s0 (fun e B1 H1 g1 => ?_) fun e B1 H1 g1 => ?_
    · refine s_retq neg1 g1.sub fun v B2 H2 g2 p2 => q v B2 H2 (g1.trans g2) ?_
      have : wrongV s d = some (-1) := by
        unfold wrongV
        rw [hs]
        have e := of_decide_eq_true e
        exact if_pos (by omega)
      rw [this]
      exact p2
    have hne : ¬ xs.length = 0 := by
      have e := of_decide_eq_false e
      omega
    have hw : wrongV s d = (badK s xs).map fun k => (k : Int) := by
      unfold wrongV
      rw [hs]
      exact if_neg hne
    have h1 : Rp B1 v1 (dSea s) := Rp.mono (Sd.of g1.base) h1
    refine s_set (ev_call s (ea1 (ev_var h1)) ok) g1.sub fun vs B2 H2 g2 p2 => ?_
    have p2 : Rp B2 vs (.list ((spots s).map dP)) := p2
    have g12 := g1.trans g2
    have h1 : Rp B2 v1 (dSea s) := Rp.mono (Sd.of g2.base) h1
    have h2 : Rp B2 v2 d := Rp.mono (Sd.of g12.base) h2
    refine s_forG (wk_r1 (hlen0 rfl h2) (by omega) (by omega)) g2.sub (fun i σ B => (∃ a b c, σ = [some v1, some v2, some vs, a, b, c]) ∧ ∀ j, j < i → okB s xs j = true) (fun i σ B1 B2 s p => p) (fun B0 s => ⟨⟨_, _, _, rfl⟩, fun j hj => absurd hj (Nat.not_lt_zero j)⟩)
      (fun i y σ1 B3 H3 l g3 ⟨⟨a, b, c, e⟩, hok⟩ py => ?_) fun σ1 B3 H3 g3 ⟨⟨a, b, c, e⟩, hok⟩ => ?_
    · subst e
      have l : i < xs.length := by omega
      have py : y = .int ((0 : Int) + (i : Int)) := Rp.int_eq py
      rw [rg_zero] at py
      subst py
      refine ⟨_, gt_name, fun N hN => ?_⟩
      have h1 : Rp B3 v1 (dSea s) := Rp.mono (Sd.of g3.base) h1
      have h2 : Rp B3 v2 d := Rp.mono (Sd.of g3.base) h2
      have p2 : Rp B3 vs (.list ((spots s).map dP)) := Rp.mono (Sd.of g3.base) p2
      generalize he : xs[i] = e
      have hget : xs.getD i .none = e := by simp [List.getD, l, he]
      have hely : Lay 2 e := hlay e (by rw [← he]; exact List.getElem_mem l)
      refine s_set (ev_ixS hs (ev_var (I := dt d) h2) (ev_var (I := dt (.int (i : Nat))) (.int _)) (atI_nat (by rw [List.getElem?_eq_getElem l, he]))) g3.sub fun vp B4 H4 g4 p4 => ?_
      have p4 : Rp B4 vp e := p4
      -- a wrong one is told
      have tell : ∀ {B5 H5 : Hp} {σ : L2.St} {D : Ends} {tu : TS}, Grow B4 H4 B5 H5 → σ[3]? = some (some (.int (i : Nat))) → (∀ v H', D.rt v H' = Q v H') → okB s xs i = false → tSeq (tRet (tVar 3)) tu D σ H5 := fun g5 e3 hD hbad => s_retq (ev_var (I := dt (.int (i : Nat))) (.int _) e3) g5.sub fun v B6 H6 g6 p6 => by
        rw [hD]
        refine q v B6 H6 (((g12.trans g3).trans (g4.trans g5)).trans g6) ?_
        rw [hw, badK_at l hok hbad]
        exact p6
      have hw5 : ∀ {A : Hp}, Same B4 A → Rp A vp e := fun s' => Rp.mono (Sd.of s') p4
      refine s_if1 (b := !isTup e || (!decide (lenD e = 3) || !nbD e)) (et_or (et_not (et_B (ev_isi kit_tuple (ev_var p4)))) fun e1 => et_or (et_test (ev_tupLen e1 p4 (ev_int (i := 3)))) fun e2 => ?_) g4.sub (fun eb B5 H5 g5 => ?_) fun eb B5 H5 g5 => ?_
      · obtain ⟨ys, rfl, hy3⟩ := tup_of (n := 3) (d := e) (by rw [e1]; exact e2)
        have hly := lay_inv hely
        refine et_test ((ev_op (ev_lcL fBl (wk_tup (ev_var (I := dt (.tuple ys)) p4)) (by omega) fun z x B6 hz s6 px => ?_) (ev_lst (ds := []) ea_nil (by decide)) (rv_neD (lay_list (n := 1) fun z hz => ?_).sh' (lay_list (n := 1) (ds := []) fun z hz => nomatch hz).sh')).is ?_)
        · refine ⟨_, isBool z, gt_name, rfl, et_B (ev_isi kit_bool (ev_var px)), fun h => ?_, fun h => ?_⟩
          · unfold fBl
            rw [h]
            rfl
          · exact ⟨z, by unfold fBl; rw [h]; rfl, ev_var px⟩
        · rw [fm_bl] at hz
          exact hly z (List.mem_filter.mp hz).1
        · rw [ne_nil_eqv, fm_bl]
          rfl
      · refine tell g5 rfl (fun _ _ => rfl) ?_
        unfold okB
        rw [hget, plP_no eb]
      · obtain ⟨ys, rfl, hy3, hnb⟩ := tup3 eb
        have g45 := g4.trans g5
        have h1 : Rp B5 v1 (dSea s) := Rp.mono (Sd.of g45.base) h1
        have h2 : Rp B5 v2 d := Rp.mono (Sd.of g45.base) h2
        have p2 : Rp B5 vs (.list ((spots s).map dP)) := Rp.mono (Sd.of g45.base) p2
        have r5 := hw5 g5.base
        refine s_if (b := !okB s xs i) ?_ g5.sub (fun eb B6 H6 g6 => ?_) fun eb B6 H6 g6 => hN _ B6 H6 (g45.trans g6) ⟨⟨_, _, _, rfl⟩, fun j hj => ?_⟩
        · cases hp : plP (.tuple ys) with
          | none =>
            refine (et_or (b := true) (c := true) (et_test ((ev_op (ev_var (I := dt (.tuple ys)) r5) (ev_var (I := dt (.list ((spots s).map dP))) p2) (rv_niD (hely.sh (by decide)) (sh_dPs _))).is ?_)) fun z => nomatch z).is ?_
            · rw [any_pl hy3 hnb, hp]
              rfl
            · unfold okB
              rw [hget, hp]
              rfl
          | some p =>
            have hpd := plP_is hp
            refine (et_or (b := !decide (p ∈ spots s)) (c := !(decide (i = 0) || match plP (xs.getD (i - 1) .none) with | none => false | some o => decide (p ∈ nearP s o))) (et_test ((ev_op (ev_var (I := dt (.tuple ys)) r5) (ev_var (I := dt (.list ((spots s).map dP))) p2) (rv_niD (hely.sh (by decide)) (sh_dPs _))).is ?_)) fun _ => ?_).is ?_
            · rw [any_pl hy3 hnb, hp]
            · by_cases hi : i = 0
              · subst hi
                exact (et_and (b := false) (c := true) (et_test ((ev_ib (g := fun i j => decide (j < i)) (ev_var (I := dt (.int ((0 : Nat) : Int))) (.int _)) (ev_int (i := 0))).is rfl)) fun z => nomatch z).is rfl
              · have hprev := hok (i - 1) (by omega)
                obtain ⟨o, ho⟩ : ∃ o, plP (xs.getD (i - 1) .none) = some o := by
                  unfold okB at hprev
                  cases z : plP (xs.getD (i - 1) .none) with
                  | none =>
                    rw [z] at hprev
                    cases hprev
                  | some o => exact ⟨o, rfl⟩
                have hl1 : i - 1 < xs.length := by omega
                have hxo : xs[i - 1] = dP o := by
                  have : xs.getD (i - 1) .none = xs[i - 1] := by simp [List.getD, hl1]
                  rw [this] at ho
                  exact plP_is ho
                rw [ho]
                have hi1 : ((i : Nat) : Int) - 1 = ((i - 1 : Nat) : Int) := by omega
                refine (et_and (b := true) (c := !decide (p ∈ nearP s o)) (et_test ((ev_ib (g := fun i j => decide (j < i)) (ev_var (I := dt (.int (i : Nat))) (.int _)) (ev_int (i := 0))).is ?_)) fun _ => et_test ((ev_op (ev_var (I := dt (.tuple ys)) r5) (ev_call (s, o) (ea_cons (ev_var h1) (ea1 (ev_ixS hs (ev_var (I := dt d) h2) (ev_i (g := fun i j => i - j) (ev_var (I := dt (.int (i : Nat))) (.int _)) (ev_int (i := 1))) ?_))) ok) (rv_niD (ds := (nearP s o).map dP) (hely.sh (by decide)) (sh_dPs _))).is ?_)).is ?_
                · congr 1
                  exact decide_eq_true (by omega)
                · show atI xs (((i : Nat) : Int) - 1) = some (dP o)
                  rw [hi1]
                  exact atI_nat (by rw [List.getElem?_eq_getElem hl1, hxo])
                · rw [any_pl hy3 hnb, hp]
                · rw [decide_eq_false hi, Bool.false_or, Bool.true_and]
            · unfold okB
              rw [hget, hp]
              dsimp only
              rw [Bool.not_and]
        · have eb : okB s xs i = false := by simpa using eb
          refine (ev_var (I := dt (.int (i : Nat))) (.int _)) H6 g6.sub _ fun v B7 H7 g7 p7 => ?_
          refine q v B7 H7 (((g12.trans g3).trans (g45.trans g6)).trans g7) ?_
          rw [hw, badK_at l hok eb]
          exact p7
        · by_cases hji : j = i
          · rw [hji]
            simpa using eb
          · exact hok j (by omega)
    · subst e
      refine s_ret ev_non g3.sub fun v B4 H4 g4 p4 => q v B4 H4 ((g12.trans g3).trans g4) ?_
      rw [hw, badK_none (fun j hj => hok j (by omega))]
      exact p4
end
end Sky

set_option Elab.async false
set_option linter.all false
set_option maxRecDepth 100000
set_option maxHeartbeats 400000
/-! The law's comparison (of equal things), sheet, cruise. -/
namespace Sky
open PySem PySem.Spec PyProof.Rows L2
def SmD : Nat → PyData → Prop
  | 0, _ => False
  | n + 1, .list xs => xs.length ≤ 1000 ∧ ∀ x ∈ xs, SmD n x
  | n + 1, .tuple xs => xs.length ≤ 1000 ∧ ∀ x ∈ xs, SmD n x
  | _ + 1, .dict _ => False
  | _ + 1, .str x => PyData.strOk x = true
  | _ + 1, _ => True
section
variable {K : PySem.W.Frag} {σ : L2.St} {H : Hp} {ta tb te : TE} {ds es : List PyData} {b c : Bool}
theorem wk_zipT (h : EvD te σ H (.tuple ds)) (k : EvD ta σ H (.tuple es)) (hl : ds.length = es.length) : Wk (RZ.iZipA K (tCons te (tCons ta tNil))) σ H ds.length (fun i => dt (.tuple [ds.getD i .none, es.getD i .none])) := fun H1 s R r =>
  h H1 s _ fun v B2 H2 g2 p2 => Ev.mono g2.base k H2 g2.sub _ fun w B3 H3 g3 p3 => by
    obtain ⟨a, xs, rfl, e, q⟩ := Rp.tup_eq p2
    obtain ⟨b, ys, rfl, e2, q2⟩ := Rp.tup_eq p3
    have e := g3.base _ _ e
    have q := q.mono (Sd.of g3.base)
    refine ⟨a, b, xs, ys, rfl, .inr ⟨SqT.of (g3.sub _ _ e), SqT.of (g3.sub _ _ e2), r _ B3 H3 (g2.trans g3) ⟨fun i H' s' l => ?_, fun i H' x H'' s' l y => ?_, fun H' s' => ⟨xs, ys, SqT.of (s' _ _ e), SqT.of (s' _ _ e2), .inl (by rw [q.length]; exact Nat.le_refl _)⟩⟩⟩⟩
    · have l' : i < xs.length := by rw [q.length]; exact l
      have l2 : i < ys.length := by rw [q2.length, ← hl]; exact l
      exact ⟨xs, ys, xs[i], ys[i], SqT.of (s' _ _ e), SqT.of (s' _ _ e2), List.getElem?_eq_getElem l', List.getElem?_eq_getElem l2⟩
    · obtain ⟨T, x', y', z1, hT, z2, hx, hy⟩ := y
      subst z1 z2
      obtain ⟨d, h1, h2⟩ := q.getV (hx xs (SqT.of (s' _ _ e)))
      obtain ⟨d', h1', h2'⟩ := q2.getV (hy ys (SqT.of (s' _ _ e2)))
      refine ⟨_, Grow.alloc s' hT, ?_⟩
      have sd := Sd.of (same_new (o := .tup [x', y']) (Same.free s' hT))
      show Rp _ _ _
      rw [getD_of h1, getD_of h1']
      exact .tup upd_same (.cons (h2.mono sd) (.cons (h2'.mono sd) .nil))
theorem wk_zipL (h : EvD te σ H (.list ds)) (k : EvD ta σ H (.list es)) (hl : ds.length = es.length) : Wk (RZ.iZipA K (tCons te (tCons ta tNil))) σ H ds.length (fun i => dt (.tuple [ds.getD i .none, es.getD i .none])) := fun H1 s R r => by
  have := wk_zip (K := K) h k hl H1 s R r
  exact h H1 s _ fun v B2 H2 g2 p2 => Ev.mono g2.base k H2 g2.sub _ fun w B3 H3 g3 p3 => by
    obtain ⟨a, xs, rfl, e, q⟩ := Rp.lst_eq p2
    obtain ⟨b, ys, rfl, e2, q2⟩ := Rp.lst_eq p3
    have e := g3.base _ _ e
    have q := q.mono (Sd.of g3.base)
    refine ⟨a, b, xs, ys, rfl, .inl ⟨SqL.of (g3.sub _ _ e), SqL.of (g3.sub _ _ e2), r _ B3 H3 (g2.trans g3) ⟨fun i H' s' l => ?_, fun i H' x H'' s' l y => ?_, fun H' s' => ⟨xs, ys, SqL.of (s' _ _ e), SqL.of (s' _ _ e2), .inl (by rw [q.length]; exact Nat.le_refl _)⟩⟩⟩⟩
    · have l' : i < xs.length := by rw [q.length]; exact l
      have l2 : i < ys.length := by rw [q2.length, ← hl]; exact l
      exact ⟨xs, ys, xs[i], ys[i], SqL.of (s' _ _ e), SqL.of (s' _ _ e2), List.getElem?_eq_getElem l', List.getElem?_eq_getElem l2⟩
    · obtain ⟨T, x', y', z1, hT, z2, hx, hy⟩ := y
      subst z1 z2
      obtain ⟨d, h1, h2⟩ := q.getV (hx xs (SqL.of (s' _ _ e)))
      obtain ⟨d', h1', h2'⟩ := q2.getV (hy ys (SqL.of (s' _ _ e2)))
      refine ⟨_, Grow.alloc s' hT, ?_⟩
      have sd := Sd.of (same_new (o := .tup [x', y']) (Same.free s' hT))
      show Rp _ _ _
      rw [getD_of h1, getD_of h1']
      exact .tup upd_same (.cons (h2.mono sd) (.cons (h2'.mono sd) .nil))
theorem wk_zipS {d : PyData} {xs : List PyData} (hs : seqOf d = some xs) (h : EvD te σ H d) (k : EvD ta σ H d) : Wk (RZ.iZipA K (tCons te (tCons ta tNil))) σ H xs.length (fun i => dt (.tuple [xs.getD i .none, xs.getD i .none])) := by
  rcases seqOf_is hs with rfl | rfl
  · exact wk_zipL h k rfl
  · exact wk_zipT h k rfl
theorem ev_neB (ha : EvD ta σ H (.bool b)) (hb : EvD tb σ H (.bool c)) : EvD (tOp rNe ta tb) σ H (.bool (!decide (b = c))) := ev_op ha hb fun x y A H s px py Q q => by
  obtain rfl := Rp.bl_eq px
  obtain rfl := Rp.bl_eq py
  have e : decide (V.bl b = V.bl c) = decide (b = c) := by
    by_cases h : b = c
    · simp [h]
    · simp [h]
  exact ⟨rfl, by rw [e]; exact q _ A H (Grow.refl s) (.bl _)⟩
theorem ev_eqB (ha : EvD ta σ H (.bool b)) (hb : EvD tb σ H (.bool c)) : EvD (tOp rEq ta tb) σ H (.bool (decide (b = c))) := ev_op ha hb fun x y A H s px py Q q => by
  obtain rfl := Rp.bl_eq px
  obtain rfl := Rp.bl_eq py
  have e : decide (V.bl b = V.bl c) = decide (b = c) := by
    by_cases h : b = c
    · simp [h]
    · simp [h]
  exact ⟨rfl, by rw [e]; exact q _ A H (Grow.refl s) (.bl _)⟩
theorem ev_neBB (b : Bool) (ha : EvD ta σ H (.bool b)) (hb : EvD tb σ H (.bool b)) : EvD (tOp rNe ta tb) σ H (.bool false) := (ev_neB ha hb).is (by simp)
theorem ev_eqBB (b : Bool) (ha : EvD ta σ H (.bool b)) (hb : EvD tb σ H (.bool b)) : EvD (tOp rEq ta tb) σ H (.bool true) := (ev_eqB ha hb).is (by simp)
end
theorem s_assoc {σ : L2.St} {H : Hp} {D : Ends} {ta tb tc : TS} (h : tSeq ta (tSeq tb tc) D σ H) : tSeq (tSeq ta tb) tc D σ H := h
section
variable {P : Program} {w : World} {K : PySem.W.Frag} {mg : Str → Option Value} {base : Heap} {W : Wd}
abbrev spSame (n : Nat) : Sp := SpF (fun d : PyData => [dt d, dt d]) (SmD n) fun _ => dt (.bool true)
theorem sc_law_same : FnScope ["_law_found", "_law_due", "_law_one", "_law_two"] ["_law_found", "_law_due"] (defScope s__law_same) := C8.fnScope_by (by decide +kernel)
theorem ok_law_same {k n : Nat} (T : Bt mg) (c_law_same : C8.Cal P w K mg base k "_law_same" (spSame n) []) (F : Dfn K mg "_law_same" s__law_same ["_law_found", "_law_due"]) : C8.Cal P w K mg base (k+1) "_law_same" (spSame (n+1)) [] := by
  have sc := sc_law_same
  refine F.cal sc (SpF.len fun _ => rfl) fun f cdv A outer s H vs Q E hr hsp => ?_
  refine ⟨_, (pss_cons (ps_if (pt_val (pe_callB call_isiT (by rfl) T.n_isinstance bb_isinstance (pa_cons (pv 1) (pa_cons (pe_tup (pa_cons (pe_bltn (v := .ty "list") (by rfl) T.n_list bb_list rfl) (pa_cons (pe_bltn (v := .ty "tuple") (by rfl) T.n_tuple bb_tuple rfl) pa_nil))) pa_nil)))) (pss_cons (ps_if (PW.pt (pw_or (pt_cmpR op_ne (pe_callB call_isi (by rfl) T.n_isinstance bb_isinstance (pa_cons (pv 0) (pa_cons (pe_bltn (v := .ty "list") (by rfl) T.n_list bb_list rfl) pa_nil))) (pe_callB call_isi (by rfl) T.n_isinstance bb_isinstance (pa_cons (pv 1) (pa_cons (pe_bltn (v := .ty "list") (by rfl) T.n_list bb_list rfl) pa_nil))) (nomark _)) (pw_or1 (pt_cmpR op_ne (pe_callB call_isi (by rfl) T.n_isinstance bb_isinstance (pa_cons (pv 0) (pa_cons (pe_bltn (v := .ty "tuple") (by rfl) T.n_tuple bb_tuple rfl) pa_nil))) (pe_callB call_isi (by rfl) T.n_isinstance bb_isinstance (pa_cons (pv 1) (pa_cons (pe_bltn (v := .ty "tuple") (by rfl) T.n_tuple bb_tuple rfl) pa_nil))) (nomark _))))) (pss_one (ps_ret pe_bl)) pss_nil)
      (pss_one (ps_ret (pe_and (pe_cmpR op_eq (pe_callB call_len_seq (by rfl) T.n_len bb_len (pa_cons (pv 0) pa_nil)) (pe_callB call_len_seq (by rfl) T.n_len bb_len (pa_cons (pv 1) pa_nil)) (nomark _)) (pe_one (pe_callB (cr_all rfl) (by rfl) T.n_all bb_all (pa_cons (pe_lc (own := [("_law_one", 2), ("_law_two", 3)]) rfl sc.nd (RZ.pi_zipA (by rfl) T.n_zip (pa_cons (pv 0) (pa_cons (pv 1) pa_nil))) (blkOk_by (own := [("_law_one", 2), ("_law_two", 3)]) (N := ["_law_found", "_law_due", "_law_one", "_law_two"]) (sc := defScope s__law_same) (by decide +kernel)) (fun _ _ _ _ _ => (pg_tupK (n := 2) K rfl rfl (pgs_cons (pg_name (i := 2) sc.nd rfl (by first | exact Or.inl rfl | exact Or.inr rfl)) (pgs_cons (pg_name (i := 3) sc.nd rfl (by first | exact Or.inl rfl | exact Or.inr rfl)) pgs_nil)) rfl rfl)) (fun _ _ _ _ _ => pts_nil) (fun _ _ _ _ _ => (C8.pe_c c_law_same hr (Nat.le_refl _) (by rfl) (pa_cons (pv 2) (pa_cons (pv 3) pa_nil))))) pa_nil))))))) pss_nil)
    (pss_cons (ps_if (PW.pt (pw_or (pt_cmpR op_isN (pv 1) pe_non (nomark _)) (pw_or1 (pt_cmpR op_isN (pv 0) pe_non (nomark _))))) (pss_one (ps_ret (pe_and (pe_cmpR op_isN (pv 1) pe_non (nomark _)) (pe_one (pe_cmpR op_isN (pv 0) pe_non (nomark _)))))) pss_nil)
    (pss_cons (ps_if (PW.pt (pw_or (pt_cmpR op_ne (pe_callB call_isi (by rfl) T.n_isinstance bb_isinstance (pa_cons (pv 0) (pa_cons (pe_bltn (v := .ty "bool") (by rfl) T.n_bool bb_bool rfl) pa_nil))) (pe_callB call_isi (by rfl) T.n_isinstance bb_isinstance (pa_cons (pv 1) (pa_cons (pe_bltn (v := .ty "bool") (by rfl) T.n_bool bb_bool rfl) pa_nil))) (nomark _)) (pw_or1 (pt_cmpR op_ne (pe_callB call_isi (by rfl) T.n_isinstance bb_isinstance (pa_cons (pv 0) (pa_cons (pe_bltn (v := .ty "int") (by rfl) T.n_int bb_int rfl) pa_nil))) (pe_callB call_isi (by rfl) T.n_isinstance bb_isinstance (pa_cons (pv 1) (pa_cons (pe_bltn (v := .ty "int") (by rfl) T.n_int bb_int rfl) pa_nil))) (nomark _))))) (pss_one (ps_ret pe_bl)) pss_nil)
    (pss_one (ps_ret (pe_and (pe_cmpR op_eq (pe_callB call_isi (by rfl) T.n_isinstance bb_isinstance (pa_cons (pv 0) (pa_cons (pe_bltn (v := .ty "str") (by rfl) T.n_str bb_str rfl) pa_nil))) (pe_callB call_isi (by rfl) T.n_isinstance bb_isinstance (pa_cons (pv 1) (pa_cons (pe_bltn (v := .ty "str") (by rfl) T.n_str bb_str rfl) pa_nil))) (nomark _)) (pe_one (pe_cmpR (op_eqD (hud hr)) (pv 0) (pv 1) (nomark _))))))))), ?_⟩
  obtain ⟨d, B, hp, s0, ha, q⟩ := hsp
  dsimp only at hp ha q
  obtain ⟨v1, v2, rfl, h1, h2⟩ := ita2 ha
  cases hs : seqOf d with
  | some xs =>
    have hsm : xs.length ≤ 1000 ∧ ∀ x ∈ xs, SmD n x := by
      rcases seqOf_is hs with rfl | rfl <;> exact hp
    refine s_ifY ((et_B (ev_isiLT (ev_var h2))).is (by rw [seqOf_bool, hs]; rfl)) s0 fun B1 H1 g1 => ?_
    have h1 : Rp B1 v1 d := Rp.mono (Sd.of g1.base) h1
    have h2 : Rp B1 v2 d := Rp.mono (Sd.of g1.base) h2
    have e1 : EvD (tOp rNe (tCB (rIsi K) (tCons (tVar 0) (tCons (tC (.ty "list")) tNil))) (tCB (rIsi K) (tCons (tVar 1) (tCons (tC (.ty "list")) tNil)))) [some v1, some v2, none, none] B1 (.bool false) := ev_neBB (isLst d) (ev_isi kit_list (ev_var h1)) (ev_isi kit_list (ev_var h2))
    have e2 : EvD (tOp rNe (tCB (rIsi K) (tCons (tVar 0) (tCons (tC (.ty "tuple")) tNil))) (tCB (rIsi K) (tCons (tVar 1) (tCons (tC (.ty "tuple")) tNil)))) [some v1, some v2, none, none] B1 (.bool false) := ev_neBB (isTup d) (ev_isi kit_tuple (ev_var h1)) (ev_isi kit_tuple (ev_var h2))
    refine s_assoc (s_ifN (et_or (b := false) (c := false) (et_test e1) fun _ => et_test e2) g1.sub fun B2 H2 g2 => ?_)
    have h1 : Rp B2 v1 d := Rp.mono (Sd.of g2.base) h1
    have h2 : Rp B2 v2 d := Rp.mono (Sd.of g2.base) h2
    refine s_retq (ev_and (b := true) (c := true) ((ev_eqI (ev_cb (ea1 (ev_var h1)) (rc_lenS hs)) (ev_cb (ea1 (ev_var h2)) (rc_lenS hs))).is (by simp)) fun _ => (ev_all (bs := xs.map fun _ => true) ((ev_lc (fun i => some (.bool true)) (wk_zipS hs (ev_var h1) (ev_var h2)) (by omega) fun i y B4 li s4 py => ?_).is ?_)).is ?_) g2.sub fun v B3 H3 g3 p3 => q v B3 H3 ((g1.trans g2).trans g3) p3
    · have py : Rp B4 y (.tuple [xs.getD i .none, xs.getD i .none]) := py
      obtain ⟨x, z, rx, rz, hg⟩ := gt_two (K := K) (i := 2) (j := 3) (σ := wipe [some v1, some v2, none, none] [2, 3]) py
      have e : xs.getD i .none = xs[i] := by simp [List.getD, li]
      rw [e] at rx rz
      exact ⟨_, true, hg, rfl, et_yes, (fun z => nomatch z), fun _ => ⟨_, rfl, ev_call xs[i] (ea_cons (ev_var rx) (ea1 (ev_var rz))) (hsm.2 _ (List.getElem_mem li))⟩⟩
    · congr 1
      rw [show (fun _ : Nat => some (PyData.bool true)) = some ∘ fun _ : Nat => PyData.bool true from rfl, List.filterMap_eq_map, List.map_map]
      apply List.ext_getElem
      · simp
      · intro i h1 h2
        simp
    · congr 1
      simp
  | none =>
    refine s_ifN ((et_B (ev_isiLT (ev_var h2))).is (by rw [seqOf_bool, hs]; rfl)) s0 fun B1 H1 g1 => ?_
    have h1 : Rp B1 v1 d := Rp.mono (Sd.of g1.base) h1
    have h2 : Rp B1 v2 d := Rp.mono (Sd.of g1.base) h2
    refine s_if1 (b := isNon d || isNon d) (et_or (et_test (ev_isN (ev_var h2))) fun _ => et_test (ev_isN (ev_var h1))) g1.sub (fun e B2 H2 g2 => ?_) fun e B2 H2 g2 => ?_
    · rw [Bool.or_self] at e
      refine s_retq ((ev_and (b := isNon d) (c := isNon d) (ev_isN (ev_var (I := dt d) (Rp.mono (Sd.of g2.base) h2))) fun _ => ev_isN (ev_var (I := dt d) (Rp.mono (Sd.of g2.base) h1))).is (by rw [e]; rfl)) g2.sub fun v B3 H3 g3 p3 => q v B3 H3 ((g1.trans g2).trans g3) p3
    rw [Bool.or_self] at e
    have h1 : Rp B2 v1 d := Rp.mono (Sd.of g2.base) h1
    have h2 : Rp B2 v2 d := Rp.mono (Sd.of g2.base) h2
    have e1 : EvD (tOp rNe (tCB (rIsi K) (tCons (tVar 0) (tCons (tC (.ty "bool")) tNil))) (tCB (rIsi K) (tCons (tVar 1) (tCons (tC (.ty "bool")) tNil)))) [some v1, some v2, none, none] B2 (.bool false) := ev_neBB (isBool d) (ev_isi kit_bool (ev_var h1)) (ev_isi kit_bool (ev_var h2))
    have e2 : EvD (tOp rNe (tCB (rIsi K) (tCons (tVar 0) (tCons (tC (.ty "int")) tNil))) (tCB (rIsi K) (tCons (tVar 1) (tCons (tC (.ty "int")) tNil)))) [some v1, some v2, none, none] B2 (.bool false) := ev_neBB (isInt d) (ev_isi kit_int (ev_var h1)) (ev_isi kit_int (ev_var h2))
    refine s_ifN (et_or (b := false) (c := false) (et_test e1) fun _ => et_test e2) g2.sub fun B3 H3 g3 => ?_
    have h1 : Rp B3 v1 d := Rp.mono (Sd.of g3.base) h1
    have h2 : Rp B3 v2 d := Rp.mono (Sd.of g3.base) h2
    have hsh : SeqAt.shaped d = true ∧ PyData.eqv d d = true := by
      cases d with
      | list xs => cases hs
      | tuple xs => cases hs
      | none => cases e
      | dict kvs => exact hp.elim
      | bool b => exact ⟨(lay_bool b).sh (by decide), by rw [PyData.eqv]; simp⟩
      | int b => exact ⟨(lay_int b).sh (by decide), by rw [PyData.eqv]; simp⟩
      | str b => exact ⟨(lay_str hp).sh (by decide), by rw [PyData.eqv]; simp⟩
    refine s_ret ((ev_and (b := true) (c := true) (ev_eqBB (isStr d) (ev_isi kit_str (ev_var h1)) (ev_isi kit_str (ev_var h2))) fun _ => (ev_op (ev_var h1) (ev_var h2) (rv_eqD hsh.1 hsh.1)).is (by rw [hsh.2]))) g3.sub fun v B4 H4 g4 p4 => q v B4 H4 (((g1.trans g2).trans g3).trans g4) p4
theorem same0 {x : Str} {st : Stmt} {N : List Str} (F : Dfn K mg "_law_same" s__law_same ["_law_found", "_law_due"]) : C8.Cal P w K mg base 0 "_law_same" (spSame 0) [] := by
  obtain ⟨f, oc, od, kV, doc, pm, an, cdv, ct, osl, h1, h2, h3, h4, h5⟩ := F.ex
  refine ⟨f, _, _, [], ?_, h1, h4, h5, .nil⟩
  exact ⟨SpF.len fun _ => rfl, fun A outer s H args us vs Q E hr e0 hb r ⟨d, B, hp, _⟩ => hp.elim⟩
theorem sameAt (T : Bt mg) (F : Dfn K mg "_law_same" s__law_same ["_law_found", "_law_due"]) : ∀ n, C8.Cal P w K mg base n "_law_same" (spSame n) []
  | 0 => same0 (x := "") (st := .Pass ⟨0, 0, 0, 0⟩) (N := []) F
  | n + 1 => ok_law_same T (sameAt T F n) F
end
end Sky

set_option Elab.async false
set_option linter.all false
set_option maxRecDepth 100000
set_option maxHeartbeats 4000000
/-! The law's comparison (of equal things), sheet, cruise. -/
namespace Sky
open PySem PySem.Spec PyProof.Rows L2
section
variable {P : Program} {w : World} {K : PySem.W.Frag} {mg : Str → Option Value} {base : Heap} {W : Wd}
abbrev spSheet (W : Wd) : Sp := SpF (fun s : Sea => [dt (dSea s)]) wet fun s => chI W s
theorem sc_law_sheet : FnScope ["_law_sea_here"] ["_law_sea_here"] (defScope s__law_sheet) := C8.fnScope_by (by decide +kernel)
theorem ok_law_sheet (T : Bt mg) (cChart : Mkr P w K mg base 4 "Chart" W.cc 2 ["top"] (spChart W)) (F : Dfn K mg "_law_sheet" s__law_sheet ["_law_sea_here"]) : C8.Cal P w K mg base 6 "_law_sheet" (spSheet W) [] := by
  have sc := sc_law_sheet
  refine F.cal sc (SpF.len fun _ => rfl) fun f cdv A outer s H vs Q E hr hsp => ?_
  refine ⟨_, (pss_one (ps_ret (pe_mkK cChart hr (by decide) (by rfl) (pa_cons (pe_ix ix_tup (pv 0) pe_int (fun _ _ => rfl)) (pa_cons (pe_ix ix_tup (pv 0) pe_int (fun _ _ => rfl)) pa_nil)) (pk_cons (pe_ix ix_tup (pv 0) pe_int (fun _ _ => rfl)) pk_nil)))), ?_⟩
  obtain ⟨x, B, hp, s0, ha, q⟩ := hsp
  dsimp only at hp ha q
  obtain ⟨v1, rfl, h1⟩ := ita1 ha
  exact s_ret (ev_mkK x (ea_cons (sea_rows (ev_var h1)) (ea1 (sea_gusts (ev_var h1)))) (ea1 (sea_top (ev_var h1))) rfl rfl rfl hp) s0 q
abbrev spCruise (W : Wd) : Sp := SpF (fun t : Tr => [dt (dSea t.s), dt (dTour t)]) (fun t => wet t.s ∧ TrOk t ∧ banOk t.s t.ban) fun t => trI W t
theorem sc_law_cruise : FnScope ["_law_sea_here", "_law_tour_here"] ["_law_sea_here", "_law_tour_here"] (defScope s__law_cruise) := C8.fnScope_by (by decide +kernel)
theorem ok_law_cruise (T : Bt mg) (c_law_sheet : C8.Cal P w K mg base 6 "_law_sheet" (spSheet W) []) (cTrip : Mkr P w K mg base 5 "Trip" W.ct 3 ["first", "last"] (SpTI W)) (cGuardedTrip : Mkr P w K mg base 6 "GuardedTrip" W.cg 4 ["first", "last"] (spGuard W)) (F : Dfn K mg "_law_cruise" s__law_cruise ["_law_sea_here", "_law_tour_here"]) : C8.Cal P w K mg base 8 "_law_cruise" (spCruise W) [] := by
  have sc := sc_law_cruise
  refine F.cal sc (SpF.len fun _ => rfl) fun f cdv A outer s H vs Q E hr hsp => ?_
  refine ⟨_, (pss_cons (ps_if (pt_cmpR op_isN (pe_ix ix_tup (pv 1) pe_int (fun _ _ => rfl)) pe_non (nomark _)) (pss_one (ps_ret (pe_mkK cTrip hr (by decide) (by rfl) (pa_cons (C8.pe_c c_law_sheet hr (by decide) (by rfl) (pa_cons (pv 0) pa_nil)) (pa_cons (pe_ix ix_tup (pv 1) pe_int (fun _ _ => rfl)) (pa_cons (pe_ix ix_tup (pv 1) pe_int (fun _ _ => rfl)) pa_nil))) (pk_cons (pe_ix ix_tup (pv 1) pe_int (fun _ _ => rfl)) (pk_cons (pe_ix ix_tup (pv 1) pe_int (fun _ _ => rfl)) pk_nil))))) pss_nil)
    (pss_one (ps_ret (pe_mkK cGuardedTrip hr (by decide) (by rfl) (pa_cons (C8.pe_c c_law_sheet hr (by decide) (by rfl) (pa_cons (pv 0) pa_nil)) (pa_cons (pe_ix ix_tup (pv 1) pe_int (fun _ _ => rfl)) (pa_cons (pe_ix ix_tup (pv 1) pe_int (fun _ _ => rfl)) (pa_cons (pe_callTy call_list_of (by rfl) T.n_list bb_list (pa_cons (pe_ix ix_tup (pv 1) pe_int (fun _ _ => rfl)) pa_nil)) pa_nil)))) (pk_cons (pe_ix ix_tup (pv 1) pe_int (fun _ _ => rfl)) (pk_cons (pe_ix ix_tup (pv 1) pe_int (fun _ _ => rfl)) pk_nil)))))), ?_⟩
  obtain ⟨t, B, hp, s0, ha, q⟩ := hsp
  dsimp only at hp ha q
  obtain ⟨v1, v2, rfl, h1, h2⟩ := ita2 ha
  obtain ⟨hw, ok, hb⟩ := hp
  refine s_if1 (b := isNon (dBan t.ban)) (et_test (ev_isN (tour_n (ev_var h2)))) s0 (fun e B1 H1 g1 => ?_) fun e B1 H1 g1 => ?_
  · have hn : t.ban = none := by
      cases z : t.ban with
      | none => rfl
      | some ps =>
        rw [z] at e
        cases e
    have h1 : Rp B1 v1 (dSea t.s) := Rp.mono (Sd.of g1.base) h1
    have h2 : Rp B1 v2 (dTour t) := Rp.mono (Sd.of g1.base) h2
    exact s_retq (ev_mkTrip (ea_cons (ev_call t.s (ea1 (ev_var h1)) hw) (ea_cons (tour_a (ev_var h2)) (ea1 (tour_b (ev_var h2))))) (ea_cons (tour_e (ev_var h2)) (ea1 (tour_l (ev_var h2)))) ok hn) g1.sub fun v B2 H2 g2 p2 => q v B2 H2 (g1.trans g2) p2
  · obtain ⟨ps, hn⟩ : ∃ ps, t.ban = some ps := by
      cases z : t.ban with
      | none =>
        rw [z] at e
        cases e
      | some ps => exact ⟨ps, rfl⟩
    have h1 : Rp B1 v1 (dSea t.s) := Rp.mono (Sd.of g1.base) h1
    have h2 : Rp B1 v2 (dTour t) := Rp.mono (Sd.of g1.base) h2
    obtain ⟨hl, hin⟩ := hb ps hn
    have hban : dBan t.ban = .list ((t.ban.getD []).map dP) := by
      rw [hn]
      rfl
    exact s_ret (ev_mkK t (ea_cons (ev_call t.s (ea1 (ev_var h1)) hw) (ea_cons (tour_a (ev_var h2)) (ea_cons (tour_b (ev_var h2)) (ea1 (ev_cb (ea1 ((tour_n (ev_var h2)).is hban)) rc_list))))) (ea_cons (tour_e (ev_var h2)) (ea1 (tour_l (ev_var h2)))) rfl rfl rfl ⟨ok, ps, hn, hl, hin⟩) g1.sub fun v B2 H2 g2 p2 => q v B2 H2 (g1.trans g2) p2
end
end Sky

set_option Elab.async false
set_option linter.all false
set_option maxRecDepth 100000
set_option maxHeartbeats 400000
/-! Plain: what check_way and is_way answer is what the law's own list says. -/
namespace Sky
open PySem PySem.Spec PyProof.Rows L2
theorem absI_le {a b : Int} (h : absI a + absI b ≤ 1) : (a = 0 ∧ b = 0) ∨ (a = -1 ∧ b = 0) ∨ (a = 0 ∧ b = 1) ∨ (a = 1 ∧ b = 0) ∨ (a = 0 ∧ b = -1) := by
  unfold absI at h
  split at h <;> split at h <;> omega
theorem follows_iff {o p : Place} : followsB o p = true ↔ p ∈ aroundP o := by
  obtain ⟨h, r, c⟩ := o
  obtain ⟨h', r', c'⟩ := p
  unfold followsB aroundP mvs5
  simp only [Bool.and_eq_true, decide_eq_true_eq, List.map_cons, List.map_nil, List.mem_cons, List.not_mem_nil, or_false, Prod.mk.injEq]
  constructor
  · rintro ⟨e, h⟩
    have := absI_le h
    omega
  · intro h
    refine ⟨by omega, ?_⟩
    unfold absI
    split <;> split <;> omega
theorem mem_near {s : Sea} {o p : Place} : p ∈ nearP s o ↔ followsB o p = true ∧ p.2 ∈ cells s := by
  unfold nearP
  rw [mem_sortP, List.mem_filter, follows_iff, decide_eq_true_eq]
theorem near_spot {s : Sea} {o p : Place} (h : p ∈ spots s) : decide (p ∈ nearP s o) = followsB o p := by
  rw [Bool.eq_iff_iff, decide_eq_true_eq, mem_near]
  exact ⟨fun z => z.1, fun z => ⟨z, (mem_spots.mp h).2.2⟩⟩
theorem follows_hour {o p : Place} (h : followsB o p = true) : p.1 = o.1 + 1 := by
  unfold followsB at h
  rw [Bool.and_eq_true] at h
  exact of_decide_eq_true h.1
/-! ### chains -/
def Chn : List Place → Prop
  | [] => True
  | [_] => True
  | a :: b :: l => followsB a b = true ∧ Chn (b :: l)
theorem chain_iff : ∀ ps : List Place, chainB ps = true ↔ Chn ps
  | [] => by simp [chainB, Chn]
  | [a] => by simp [chainB, Chn]
  | a :: b :: l => by
    have ih := chain_iff (b :: l)
    have e : chainB (a :: b :: l) = (followsB a b && chainB (b :: l)) := by
      unfold chainB
      simp only [List.length_cons, Nat.add_sub_cancel]
      rw [List.range_succ_eq_map, List.all_cons, List.all_map]
      rfl
    rw [e, Bool.and_eq_true, ih]
    rfl
theorem chn_hour : ∀ {l : List Place} {p q : Place}, Chn (p :: l) → (p :: l).getLast? = some q → q.1 = p.1 + l.length
  | [], p, q, _, h => by
    have : p = q := by simpa using h
    subst this
    simp
  | b :: l, p, q, hc, h => by
    have h1 := follows_hour hc.1
    have h2 := chn_hour (l := l) (p := b) (q := q) hc.2 (by rw [← h]; simp)
    rw [h2, h1, List.length_cons]
    omega
/-! ### the ways -/
theorem next_iff {t : Tr} (ok : TrOk t) {p o : Place} (m : May t p) (h : p.1 < t.l) : o ∈ nextB t p ↔ followsB p o = true ∧ May t o := by
  have hc := may_cells m
  rw [← nextL_eq hc (by omega)]
  unfold nextL
  rw [List.mem_filter, mem_near, Bool.not_eq_true', decide_eq_false_iff_not]
  constructor
  · rintro ⟨⟨h1, h2⟩, h3⟩
    have e := follows_hour h1
    have a1 := m.lo
    have a2 := (mem_spots.mp m.spot).1
    have a3 := ok.ll
    exact ⟨h1, mem_spots.mpr ⟨by omega, by omega, h2⟩, by omega, by omega, h3⟩
  · rintro ⟨h1, h2⟩
    exact ⟨⟨h1, may_cells h2⟩, h2.ban⟩
theorem wy_mem {t : Tr} (ok : TrOk t) : ∀ (n : Nat) (p : Place) (ps : List Place), May t p → p.1 + n = t.l → (ps ∈ wyF t p ↔ ∃ l, ps = p :: l ∧ Chn (p :: l) ∧ (∀ q ∈ l, May t q) ∧ (p :: l).getLast? = some (goalP t))
  | 0, p, ps, m, e => by
    rw [wy_last (by omega)]
    constructor
    · intro h
      split at h
      · rename_i hg
        rw [List.mem_singleton.mp h]
        exact ⟨[], rfl, trivial, (fun q hq => nomatch hq), by rw [hg]; rfl⟩
      · cases h
    · rintro ⟨l, rfl, hc, hm, hl⟩
      cases l with
      | nil =>
        have : p = goalP t := by simpa using hl
        rw [if_pos this]
        exact List.mem_singleton.mpr rfl
      | cons b l =>
        have h1 := follows_hour hc.1
        have h2 := (hm b (List.mem_cons_self ..)).hi
        omega
  | n + 1, p, ps, m, e => by
    have hl : p.1 < t.l := by omega
    rw [wy_step ok m hl]
    constructor
    · intro h
      obtain ⟨o, ho, h⟩ := List.mem_flatMap.mp h
      obtain ⟨r, hr, rfl⟩ := List.mem_map.mp h
      obtain ⟨hf, mo⟩ := (next_iff ok m hl).mp ho
      have eo := follows_hour hf
      obtain ⟨l, rfl, h1, h2, h3⟩ := (wy_mem ok n o r mo (by omega)).mp hr
      exact ⟨o :: l, rfl, ⟨hf, h1⟩, fun q hq => (List.mem_cons.mp hq).elim (fun z => z ▸ mo) (h2 q), by rw [← h3]; simp⟩
    · rintro ⟨l, rfl, hc, hm, hla⟩
      cases l with
      | nil =>
        have : p = goalP t := by simpa using hla
        rw [this] at hl
        exact absurd hl (by show ¬ t.l < t.l; omega)
      | cons o l =>
        have mo := hm o (List.mem_cons_self ..)
        have eo := follows_hour hc.1
        refine List.mem_flatMap.mpr ⟨o, (next_iff ok m hl).mpr ⟨hc.1, mo⟩, List.mem_map.mpr ⟨o :: l, (wy_mem ok n o (o :: l) mo (by omega)).mpr ⟨l, rfl, hc.2, fun q hq => hm q (List.mem_cons_of_mem _ hq), by rw [← hla]; simp⟩, rfl⟩⟩
theorem all_mem {t : Tr} (ok : TrOk t) {ps : List Place} : ps ∈ allW t ↔ (ps.length : Int) = t.l - t.e + 1 ∧ (∀ p ∈ ps, May t p) ∧ okEnds t ps = true ∧ chainB ps = true := by
  have hel := ok.el
  have hst : (startP t).1 = t.e := rfl
  have hgl : (goalP t).1 = t.l := rfl
  rw [chain_iff]
  unfold allW okEnds
  rw [Bool.and_eq_true, decide_eq_true_eq, decide_eq_true_eq]
  constructor
  · intro h
    split at h
    · cases h
    · rename_i hb
      have m := may_start ok hb
      obtain ⟨l, rfl, hc, hm, hl⟩ := (wy_mem ok (t.l - t.e).toNat _ ps m (by omega)).mp h
      have := chn_hour hc hl
      refine ⟨by rw [List.length_cons]; omega, fun p hp => (List.mem_cons.mp hp).elim (fun z => z ▸ m) (hm p), ⟨rfl, hl⟩, hc⟩
  · rintro ⟨h1, h2, ⟨h3, h4⟩, h5⟩
    cases ps with
    | nil => cases h3
    | cons p l =>
      have e : p = startP t := by simpa using h3
      subst e
      have m := h2 _ (List.mem_cons_self ..)
      rw [if_neg m.ban]
      exact (wy_mem ok (t.l - t.e).toNat _ _ m (by omega)).mpr ⟨l, rfl, h5, fun q hq => h2 q (List.mem_cons_of_mem _ hq), h4⟩
theorem all_chain {t : Tr} (ok : TrOk t) {ps : List Place} (h : ps ∈ allW t) : ps ≠ [] ∧ ps.length ≤ 4 ∧ (∀ p ∈ ps, p ∈ spots t.s) := by
  obtain ⟨h1, h2, h3, h4⟩ := (all_mem ok).mp h
  have hel := ok.el
  have hst := steps_le ok
  unfold steps at hst
  refine ⟨fun z => ?_, by omega, fun p hp => (h2 p hp).spot⟩
  rw [z] at h1
  simp at h1
  omega
/-! ### wrong places -/
theorem okB_pl {s : Sea} {xs : List PyData} {k : Nat} (h : okB s xs k = true) : ∃ p, xs.getD k .none = dP p ∧ p ∈ spots s := by
  unfold okB at h
  split at h
  · cases h
  · rename_i p hp
    rw [Bool.and_eq_true] at h
    exact ⟨p, plP_is hp, of_decide_eq_true h.1⟩
theorem okB_zero {s : Sea} {xs : List PyData} {p : Place} (h : xs.getD 0 .none = dP p) : okB s xs 0 = decide (p ∈ spots s) := by
  unfold okB
  rw [h, plP_dP]
  dsimp only
  rw [decide_eq_true rfl, Bool.true_or, Bool.and_true]
theorem okB_succ {s : Sea} {xs : List PyData} {k : Nat} {o p : Place} (ho : xs.getD k .none = dP o) (h : xs.getD (k + 1) .none = dP p) : okB s xs (k + 1) = (decide (p ∈ spots s) && followsB o p) := by
  unfold okB
  rw [h, plP_dP]
  dsimp only
  rw [Nat.add_sub_cancel, ho, plP_dP]
  dsimp only
  by_cases hs : p ∈ spots s
  · rw [near_spot hs, decide_eq_false (Nat.succ_ne_zero k), Bool.false_or]
  · rw [decide_eq_false hs, Bool.false_and, Bool.false_and]
theorem inCh_dP (s : Sea) (p : Place) : inCh s (dP p) = decide (p ∈ spots s) := rfl
theorem okB_no {s : Sea} {xs : List PyData} {k : Nat} (h : inCh s (xs.getD k .none) = false) : okB s xs k = false := by
  cases e : okB s xs k with
  | false => rfl
  | true =>
    obtain ⟨p, hp, hs⟩ := okB_pl e
    rw [hp, inCh_dP, decide_eq_true hs] at h
    cases h
theorem getD_map_dP {ps : List Place} {k : Nat} (h : k < ps.length) : (ps.map dP).getD k .none = dP ps[k] := getD_mapf h
theorem okB_map {s : Sea} : ∀ {ps : List Place}, (∀ k, k < ps.length → okB s (ps.map dP) k = true) ↔ (∀ p ∈ ps, p ∈ spots s) ∧ chainB ps = true := by
  intro ps
  constructor
  · intro h
    have hs : ∀ p ∈ ps, p ∈ spots s := fun p hp => by
      obtain ⟨k, hk, e⟩ := List.mem_iff_getElem.mp hp
      obtain ⟨q, h1, h2⟩ := okB_pl (h k hk)
      rw [getD_map_dP hk, e] at h1
      rw [dP_inj h1]
      exact h2
    refine ⟨hs, ?_⟩
    unfold chainB
    rw [List.all_eq_true]
    intro k hk
    have hk := List.mem_range.mp hk
    have h2 := h (k + 1) (by omega)
    rw [okB_succ (getD_map_dP (by omega : k < ps.length)) (getD_map_dP (by omega : k + 1 < ps.length)), Bool.and_eq_true] at h2
    have e1 : ps.getD k (0, 0, 0) = ps[k]'(by omega) := by simp [List.getD, show k < ps.length by omega]
    have e2 : ps.getD (k + 1) (0, 0, 0) = ps[k + 1]'(by omega) := by simp [List.getD, show k + 1 < ps.length by omega]
    rw [e1, e2]
    exact h2.2
  · rintro ⟨hs, hc⟩ k hk
    unfold chainB at hc
    rw [List.all_eq_true] at hc
    cases k with
    | zero =>
      rw [okB_zero (getD_map_dP hk)]
      exact decide_eq_true (hs _ (List.getElem_mem hk))
    | succ k =>
      have h2 := hc k (List.mem_range.mpr (by omega))
      have e1 : ps.getD k (0, 0, 0) = ps[k]'(by omega) := by simp [List.getD, show k < ps.length by omega]
      have e2 : ps.getD (k + 1) (0, 0, 0) = ps[k + 1] := by simp [List.getD, hk]
      rw [e1, e2] at h2
      rw [okB_succ (getD_map_dP (by omega : k < ps.length)) (getD_map_dP hk), h2, Bool.and_true]
      exact decide_eq_true (hs _ (List.getElem_mem hk))
theorem places_of {s : Sea} : ∀ {xs : List PyData}, (∀ k, k < xs.length → ∃ p, xs.getD k .none = dP p ∧ p ∈ spots s) → ∃ ps : List Place, xs = ps.map dP
  | [], _ => ⟨[], rfl⟩
  | x :: xs, h => by
    obtain ⟨p, hp, _⟩ := h 0 (Nat.zero_lt_succ _)
    obtain ⟨ps, e⟩ := places_of (s := s) (xs := xs) fun k hk => by
      obtain ⟨q, h1, h2⟩ := h (k + 1) (Nat.succ_lt_succ hk)
      exact ⟨q, by simpa using h1, h2⟩
    have hp : x = dP p := by simpa using hp
    exact ⟨p :: ps, by rw [List.map_cons, ← e, hp]⟩
theorem wrong_none {s : Sea} {d : PyData} : wrongV s d = none ↔ ∃ ps : List Place, seqOf d = some (ps.map dP) ∧ ps ≠ [] ∧ (∀ p ∈ ps, p ∈ spots s) ∧ chainB ps = true := by
  unfold wrongV
  cases hs : seqOf d with
  | none => simp
  | some xs =>
    dsimp only
    constructor
    · intro h
      by_cases h0 : xs.length = 0
      · rw [if_pos h0] at h
        cases h
      · rw [if_neg h0] at h
        have h : badK s xs = none := by
          cases hk : badK s xs with
          | none => rfl
          | some k =>
            rw [hk] at h
            cases h
        have hb := badK_all h
        obtain ⟨ps, rfl⟩ := places_of fun k hk => okB_pl (hb k hk)
        rw [List.length_map] at hb h0
        exact ⟨ps, rfl, fun z => h0 (by rw [z]; rfl), okB_map.mp hb⟩
    · rintro ⟨ps, e, hne, h⟩
      cases e
      have h0 : ¬ (ps.map dP).length = 0 := by
        rw [List.length_map]
        exact fun z => hne (List.eq_nil_of_length_eq_zero z)
      rw [if_neg h0, badK_none (fun j hj => okB_map.mpr h j (by rw [List.length_map] at hj; exact hj))]
      rfl
theorem mayG_dP {t : Tr} (p : Place) : mayG t (dP p) = true ↔ May t p := by
  constructor
  · intro h
    obtain ⟨q, e, m⟩ := mayG_of h
    rw [dP_inj e]
    exact m
  · intro m
    have hm : mayB t (dP p) = true := by
      unfold mayB
      rw [inCh_dP, decide_eq_true m.spot, Bool.true_and]
      show (decide (t.e ≤ p.1) && decide (p.1 ≤ t.l)) = true
      rw [decide_eq_true m.lo, decide_eq_true m.hi]
      rfl
    have hb := m.ban
    unfold mayG
    unfold banL at hb
    rw [hm, Bool.true_and]
    cases e : t.ban with
    | none => simp [banned, e]
    | some ps =>
      rw [banned_dP e]
      rw [e] at hb
      simpa using hb
theorem isWay_iff {t : Tr} (ok : TrOk t) {d : PyData} : isWayB t d = true ↔ ∃ ps : List Place, seqOf d = some (ps.map dP) ∧ ps ∈ allW t := by
  unfold isWayB
  cases hs : seqOf d with
  | none => simp
  | some xs =>
    dsimp only
    rw [Bool.and_eq_true, Bool.and_eq_true, Bool.and_eq_true, decide_eq_true_eq]
    constructor
    · rintro ⟨h1, h2, h3, h4⟩
      obtain ⟨ps, rfl, hm⟩ := all_places h2
      rw [unP_map] at h3 h4
      rw [List.length_map] at h1
      exact ⟨ps, rfl, (all_mem ok).mpr ⟨h1, hm, h3, h4⟩⟩
    · rintro ⟨ps, e, h⟩
      cases e
      obtain ⟨h1, h2, h3, h4⟩ := (all_mem ok).mp h
      rw [unP_map, List.length_map]
      refine ⟨h1, ?_, h3, h4⟩
      rw [List.all_eq_true]
      intro x hx
      obtain ⟨p, hp, rfl⟩ := List.mem_map.mp hx
      exact (mayG_dP p).mpr (h2 p hp)
theorem isWay_wrong {t : Tr} (ok : TrOk t) {d : PyData} (h : wrongV t.s d ≠ none) : isWayB t d = false := by
  cases e : isWayB t d with
  | false => rfl
  | true =>
    obtain ⟨ps, h1, h2⟩ := (isWay_iff ok).mp e
    obtain ⟨h3, _, h4⟩ := all_chain ok h2
    exact absurd (wrong_none.mpr ⟨ps, h1, h3, h4, ((all_mem ok).mp h2).2.2.2⟩) h
theorem eqvA_map : ∀ {a b : List Place}, PyData.eqvAll (a.map dP) (b.map dP) = decide (a = b)
  | [], [] => by simp [PyData.eqvAll]
  | [], _ :: _ => by simp [PyData.eqvAll]
  | _ :: _, [] => by simp [PyData.eqvAll]
  | p :: a, q :: b => by
    rw [List.map_cons, List.map_cons, eqvA_cons, eqv_dP, eqvA_map]
    by_cases h1 : p = q
    · by_cases h2 : a = b
      · simp [h1, h2]
      · simp [h2]
    · simp [h1]
theorem eqv_dPs (a b : List Place) : PyData.eqv (dPs a) (dPs b) = decide (a = b) := by
  show PyData.eqv (.list _) (.list _) = _
  rw [PyData.eqv, eqvA_map]
theorem any_dPs (c : List Place) (l : List (List Place)) : (l.map dPs).any (fun z => PyData.eqv z (dPs c)) = decide (c ∈ l) := by
  induction l with
  | nil => simp
  | cons d l ih =>
    rw [List.map_cons, List.any_cons, ih, eqv_dPs]
    by_cases h : d = c
    · simp [h]
    · have h' : ¬ c = d := fun e => h e.symm
      simp [h, h']
/-- a value that is right: is_way is to be in the list -/
theorem isWay_right {t : Tr} (ok : TrOk t) {d : PyData} {ps : List Place} (h : seqOf d = some (ps.map dP)) : isWayB t d = decide (ps ∈ allW t) := by
  rw [Bool.eq_iff_iff, decide_eq_true_eq, isWay_iff ok]
  constructor
  · rintro ⟨qs, e, hq⟩
    rw [h] at e
    have e := Option.some.inj e
    have : ps = qs := by
      have h1 := congrArg (List.map unP) e
      rw [unP_map, unP_map] at h1
      exact h1
    rw [this]
    exact hq
  · exact fun hq => ⟨ps, h, hq⟩
end Sky

set_option Elab.async false
set_option linter.all false
set_option maxRecDepth 100000
set_option maxHeartbeats 4000000
/-! enumerate over a tuple. -/
namespace Sky
open PySem PySem.Spec PyProof.Rows L2
set_option maxHeartbeats 1000000 in
theorem meets_en1 {v : Value} {o : Obj} {H : Heap → Prop} (B : Begins v o H) :
    Meets (Builtin.«enumerate.__new__» ⟨[.type "enumerate", v], []⟩) (fun _ R s => H s.heap ∧
      R (.ok (.ret (.ref (s.heap.push o).objs.size))) { s with heap := (s.heap.push o).push { cls := .type "enumerate", data := .fields #[.none, .bool false, .ref s.heap.objs.size, rawInt 0, .none, .none] } }) :=
  .of_wp fun prog w A R s h => by
    obtain ⟨hp, g, d, tk, os⟩ := s
    obtain ⟨h1, h⟩ := h
    have hsub := sub_enumerate
    have qi : ∀ {A' : Around} {E : Value → Shared → Prop} {Q : Value → Shared → Prop}, Q (.ref hp.objs.size) ⟨hp.push o, g, d, tk, os⟩ → wpAny (model prog w) A' (pyIter v) Q E ⟨hp, g, d, tk, os⟩ :=
      fun z => B.iter prog w _ _ ⟨hp, g, d, tk, os⟩ _ h1 z
    wp_walk using qi
    refine wpAny_stack_any fun st => wpAny_pure ?_
    split
    · rename_i c _ _ _ _ _
      cases (c == Value.type "enumerate")
      · wp_walk using qi
        exact ⟨_, rfl, h⟩
      · wp_walk using qi
        exact ⟨_, rfl, h⟩
    · wp_walk using qi
      exact ⟨_, rfl, h⟩
theorem call_en1 {prog : Program} {w : World} {A : Around} {E : Value → Shared → Prop} {s : Shared} {v : Value} {o : Obj} {H : Heap → Prop} {Q : Value → Shared → Prop} (B : Begins v o H) (h1 : H s.heap)
    (h : ∀ h', IsEnum h' (s.heap.objs.size + 1) s.heap.objs.size 0 .none → h'.get? s.heap.objs.size = some o → (∀ b u, s.heap.get? b = some u → h'.get? b = some u) → Q (.ref (s.heap.objs.size + 1)) { s with heap := h' }) :
    wpAny (model prog w) A (call (.type "enumerate") [v]) Q E s := by
  refine callType_new F.called_enumerate (by decide) (F.typeCall_enumerate_1 _) (F.newCall_enumerate_1 _) (fun obj => F.args_object_init_2 obj _) F.entry_enumerate_new (meets_en1 B) ⟨h1, ?_⟩
  have hz : (s.heap.push o).objs.size = s.heap.objs.size + 1 := Heap.size_push ..
  show _ ∧ _
  rw [hz]
  have he : IsEnum ((s.heap.push o).push { cls := .type "enumerate", data := .fields #[.none, .bool false, .ref s.heap.objs.size, rawInt 0, .none, .none] }) (s.heap.objs.size + 1) s.heap.objs.size 0 .none := by
    have := Heap.get?_push_size (s.heap.push o) (o := { cls := .type "enumerate", data := .fields #[.none, .bool false, .ref s.heap.objs.size, rawInt 0, .none, .none] }) rfl
    rw [hz] at this
    exact this
  exact ⟨⟨_, he, rfl⟩, h _ he (Heap.get?_push_of_some _ (Heap.get?_push_size _ B.free)) fun b u x => Heap.get?_push_of_some _ (Heap.get?_push_of_some _ x)⟩
/-- the tuple at a, each item in a new pair -/
def IteT (K : PySem.W.Frag) (a : Addr) : It :=
  ⟨fun i H => ∃ (xs : List V) (x : V), SqT K H a xs ∧ xs[i]? = some x, fun i H v H' => ∃ T x, v = .ref T ∧ H T = none ∧ H' = upd H T (.tup [.int (i : Nat), x]) ∧ ∀ xs, SqT K H a xs → xs[i]? = some x, fun i H => ∃ xs : List V, SqT K H a xs ∧ xs.length = i⟩
theorem ne_iter {h : Heap} {a it : Addr} {its : Array Value} {i : Nat} (p : h.IsTuple a its) (q : h.IsTupleIter it a i) : a ≠ it := fun z => by
  obtain ⟨o, e1, _, n, e2⟩ := p
  obtain ⟨u, e3, _, e4⟩ := q
  rw [z, e3] at e1
  cases e1
  rw [e4] at e2
  cases e2
theorem turn_enumT {P : Program} {w : World} {K : PySem.W.Frag} {elts : List Expr} {kk : Nat} {tpos : Pos} (a e it : Addr) :
    Turn P w K (.Tuple elts kk tpos) (IteT K a) [e, it] e (fun i h => (∃ old, IsEnum h e it ((i : Nat) : Int) old) ∧ h.IsTupleIter it a i ∧ e ≠ it) where
  mem := by simp
  obj := fun i h ⟨⟨old, he⟩, ⟨o, ho, hc, hd⟩, _⟩ b hb => by
    rcases (by simpa using hb : b = e ∨ b = it) with z | z
    · rw [z]
      exact ⟨_, he, fun v q => nomatch q⟩
    · rw [z]
      exact ⟨o, ho, fun v q => by rw [hd] at q; cases q⟩
  keep := fun i h h' st k => let ⟨⟨old, he⟩, hi, hne⟩ := st; ⟨⟨old, k e (by simp) _ he⟩, hi.at fun o q => k it (by simp) o q, hne⟩
  item := by
    intro X hP hw hK hc i pins s σ H E I hf st hg
    subst hP hw hK
    obtain ⟨⟨old, he⟩, hit, hne⟩ := st
    obtain ⟨xs, x, hq, hx⟩ := hg
    obtain ⟨its, rv, p, hz⟩ := I.tuple hq
    obtain ⟨u, hu, ru⟩ := rv.get hx
    have pT : s.heap.IsTuple a its.toArray := p
    have hna := ne_iter pT hit
    have hel : e < s.heap.objs.size := Heap.lt_size he
    have hil : it < s.heap.objs.size := by obtain ⟨_, q, _⟩ := hit; exact Heap.lt_size q
    have hae : a ≠ e := fun z => by
      obtain ⟨o, e1, _, n, e2⟩ := pT
      rw [z] at e1
      have he' : s.heap.get? e = _ := he
      rw [he'] at e1
      cases e1
      cases e2
    refine wpAny_pyNext_enum_itemD (D := Draws.tuple (A := X.A.in1) (I.ok.hd hc) it a hna its.toArray) he ⟨hit, pT⟩ (by
      have := List.getElem?_eq_some_iff.mp hu
      obtain ⟨l, _⟩ := this
      simpa using l) hne (by simp [hne, hae.symm]) fun y h' tk hy ho hs' hT hsz hk => ?_
    have hy : y = u := by
      have hy : its.toArray[i]? = some y := hy
      rw [List.getElem?_toArray, hu] at hy
      exact (Option.some.inj hy).symm
    subst hy
    refine ⟨_, rfl, wpAny_letOwnedTupleGo_enum (s := { s with heap := h', toks := tk + 1 }) ho fun h'' he' sb => ?_⟩
    have hT2 : h''.get? s.heap.objs.size = some { cls := .type "tuple", data := .seq #[.int i tk, y] } := (sb.2 _ (Nat.ne_of_gt hel)).trans hT
    have new : ObjOk X.prog X.w (upd H s.heap.objs.size (.tup [.int (i : Nat), x])) h'' s.heap.objs.size (.tup [.int (i : Nat), x]) :=
      ⟨by show 2 ≤ sizeLine; decide, [.int i tk, y], .cons ⟨_, rfl⟩ (.cons ru .nil), ⟨_, hT2, rfl, _, rfl⟩⟩
    have I1 : Inv X pins σ (upd H s.heap.objs.size (.tup [.int (i : Nat), x])) { s with heap := h'', toks := tk + 1 } :=
      I.turnedNew (ch := [e, it]) (fun b ob hb q => (sb.2 b (fun z => hb (by simp [z]))).trans (hk b ob (fun z => hb (by simp [z])) (fun z => hb (by simp [z])) q)) hf (Nat.le_refl _) new
    refine ⟨.ref s.heap.objs.size, _, I1, rfl, ⟨_, x, rfl, I.hok.fresh (Nat.le_refl _), rfl, fun ys hy => by rw [I.tuple_inj hy hq]; exact hx⟩, ⟨⟨y, ?_⟩, hs'.1.at fun o q => (sb.2 it (Ne.symm hne)).trans q, hne⟩, fun b hb => ?_⟩
    · have e1 : ((i + 1 : Nat) : Int) = (i : Int) + 1 := by omega
      rw [e1]
      exact he'
    · have hb' : b < s.heap.objs.size := by
        rcases (by simpa using hb : b = e ∨ b = it) with z | z
        · rw [z]; exact hel
        · rw [z]; exact hil
      rw [upd_ne (Nat.ne_of_lt hb')]
      exact (hf b hb).1
  done := by
    intro X hP hw hK hc i pins s σ H E I hf st hg
    subst hP hw hK
    obtain ⟨⟨old, he⟩, hit, hne⟩ := st
    obtain ⟨xs, hq, hx⟩ := hg
    obtain ⟨its, rv, p, hz⟩ := I.tuple hq
    obtain ⟨f0, f1, f2, f3, f4, f5⟩ := hf it (by simp)
    have hl := rv.length
    have pT : s.heap.IsTuple a its.toArray := p
    have hna := ne_iter pT hit
    have hi : i = its.toArray.size := by simp; omega
    subst hi
    exact wpAny_pyNext_enum_endD (D := Draws.tuple (A := X.A.in1) (I.ok.hd hc) it a hna its.toArray) he ⟨hit, pT⟩ fun h' eb => ⟨rfl, I.turned (t' := s.toks) (fun b o hb q => eb b o hb q) f0 f1 f3 f4 f5⟩
  self := fun A i s Q E st h => let ⟨⟨_, he⟩, _⟩ := st; wpAny_pyIter_enum he h
def iEnumT (K : PySem.W.Frag) (ta : TA) : TI := fun σ H R => ta σ H fun vs H1 => ∃ a xs, vs = [.ref a] ∧ SqT K H1 a xs ∧ R (IteT K a) H1
theorem pi_enumT {X : Cx} {e : Expr} {ta : TA} {p pos tpos : Pos} {elts : List Expr} {kk : Nat} (hg : Gl X "enumerate") (hm : X.mg "enumerate" = none) (ha : PA X [e] ta) (hs : starEach [e] X.env = [(false, eval e X.env)] := by rfl) :
    PI X (.Tuple elts kk tpos) (.Call (.Name "enumerate" p) [e] [] pos) (iEnumT X.K ta) := by
  refine ⟨fun pins s σ H R I h => ?_⟩
  refine Call_ (ld_blt I hg hm boot_enumerate (PyProof.Rows.callWith_type1 (thn (ha.run pos pins s σ H _ I h) fun us s1 ⟨vs, H1, I1, r1, a, xs, ex, hq, q⟩ => ?_) hs rfl))
  subst ex
  cases r1 with
  | cons r rr =>
    cases rr
    cases r
    obtain ⟨its, rv, p', hz⟩ := I1.tuple hq
    have pT : s1.heap.IsTuple a its.toArray := p'
    refine call_en1 (begins_tuple a its.toArray) pT fun h' he ho hk => wpAny_pyIter_enum he ?_
    have I2 : Inv X pins σ H1 { s1 with heap := h' } := I1.kept (t' := s1.toks) hk
    refine ⟨s1.heap.objs.size + 1, [s1.heap.objs.size + 1, s1.heap.objs.size], _, _, H1, rfl, I2, turn_enumT a (s1.heap.objs.size + 1) s1.heap.objs.size, ⟨⟨.none, he⟩, ⟨_, ho, rfl, rfl⟩, Nat.succ_ne_self _⟩, fun b hb => ?_, q⟩
    have hle : s1.heap.objs.size ≤ b := by
      rcases (by simpa using hb : b = s1.heap.objs.size + 1 ∨ b = s1.heap.objs.size) with z | z
      · rw [z]; exact Nat.le_add_right _ _
      · rw [z]; exact Nat.le_refl _
    exact I1.fpOk hle (I1.hok.fresh hle)
section
variable {K : PySem.W.Frag} {σ : L2.St} {H : Hp} {te : TE} {ds : List PyData} {d : PyData}
theorem wk_enumT (h : EvD te σ H (.tuple ds)) : Wk (iEnumT K (tCons te tNil)) σ H ds.length (fun i => dt (.tuple [.int (i : Nat), ds.getD i .none])) := fun H1 s R r =>
  h H1 s _ fun v B2 H2 g2 p2 => by
    obtain ⟨a, xs, rfl, e, q⟩ := Rp.tup_eq p2
    refine ⟨a, xs, rfl, SqT.of (g2.sub _ _ e), r _ B2 H2 g2 ⟨fun i H' s' l => ?_, fun i H' x H'' s' l y => ?_, fun H' s' => ⟨xs, SqT.of (s' _ _ e), q.length⟩⟩⟩
    · have l' : i < xs.length := by rw [q.length]; exact l
      exact ⟨xs, xs[i], SqT.of (s' _ _ e), List.getElem?_eq_getElem l'⟩
    · obtain ⟨T, x', e1, hT, e2, hx⟩ := y
      subst e1 e2
      obtain ⟨d, h1, h2⟩ := q.getV (hx xs (SqT.of (s' _ _ e)))
      refine ⟨_, Grow.alloc s' hT, ?_⟩
      show Rp _ _ _
      rw [getD_of h1]
      exact .tup upd_same (.cons (.int _) (.cons (h2.mono (Sd.of (same_new (Same.free s' hT)))) .nil))
theorem wk_enumS (hs : seqOf d = some ds) (h : EvD te σ H d) : Wk (wEi (iEnum K (tCons te tNil)) (iEnumT K (tCons te tNil))) σ H ds.length (fun i => dt (.tuple [.int (i : Nat), ds.getD i .none])) := by
  rcases seqOf_is hs with rfl | rfl
  · exact fun H1 s R r => .inl (wk_enum h H1 s R r)
  · exact fun H1 s R r => .inr (wk_enumT h H1 s R r)
end
end Sky

set_option Elab.async false
set_option linter.all false
set_option maxRecDepth 100000
set_option maxHeartbeats 4000000
/-! The error InvalidWay: made, its fields; defs that may raise. -/
namespace Sky
open PySem PySem.Spec PyProof.Rows L2
/-- what the top leaves of the class InvalidWay (at C), its maker (at fI), SkyError (CS), Missing (CM) -/
structure Wx (K : PySem.W.Frag) (mg : Str → Option Value) (C fI CS CM : Addr) : Prop where
  ex : OexC K C
  gC : mg "InvalidWay" = some (.ref C)
  iC : PySem.W.findIn K (.ref C) "__init__" = some (some (.ref fI))
  tI : PySem.W.typeIn K (.ref fI) = some (.type "function")
  nCode : PySem.W.findIn K (.ref C) "code" = some none
  nAt : PySem.W.findIn K (.ref C) "at" = some none
  xf : XfC K C
  gS : mg "SkyError" = some (.ref CS)
  gM : mg "Missing" = some (.ref CM)
  exm : PySem.W.exmAny K (.ref C) [.ref CS, .ref CM] = some true
def errW (k : Int) : List (Str × V) := [("at", .int k), ("code", .str "InvalidWay")]
def spIni (C : Addr) : Sp := fun vs H Q _ => ∃ (a : Addr) (k : Int), vs = [.ref a, .int k] ∧ H a = some (exo a C none) ∧
  ∀ dx, H dx = none → dx ≠ a → Q .non (upd (upd (upd H dx (exd dx [("code", .str "InvalidWay")])) a (exo a C (some dx))) dx (exd dx (errW k)))
section
variable {P : Program} {w : World} {K : PySem.W.Frag} {mg : Str → Option Value} {base : Heap} {W : Wd} {C fI CS CM : Addr}
theorem sc_wayInit : FnScope ["self", "at"] ["self", "at"] (defScope s_InvalidWay___init__) := C8.fnScope_by (by decide +kernel)
theorem ok_wayInit (T : Wx K mg C fI CS CM) (F : DfF K fI "__init__" "InvalidWay.__init__" s_InvalidWay___init__ ["self", "at"]) : FnB P w K mg base 1 fI (spIni C) := by
  have sc := sc_wayInit
  refine F.fnb sc (fun vs H Q E ⟨a, k, e, _⟩ => by rw [e]; rfl) fun f cdv A outer s H vs Q E hr hsp => ?_
  refine ⟨_, pss_cons (ps_ost (pv 0) pe_str) (pss_one (ps_ost (pv 0) (pv 1))), ?_⟩
  obtain ⟨a, k, rfl, ha, q⟩ := hsp
  refine ⟨.ref a, rfl, a, C, rfl, T.ex, T.nCode, .inl ⟨ha, fun dx hn hne => ?_⟩⟩
  exact ⟨.int k, rfl, .ref a, rfl, a, C, rfl, T.ex, T.nAt, .inr ⟨dx, _, upd_same, by rw [upd_ne hne, upd_same], by decide, q dx hn hne⟩⟩
end
section
variable {X : Cx} {C fI CS CM : Addr}
theorem pmk_way {e : Expr} {ta : TA} {p pos : Pos} {j : Nat} (T : Wx X.K X.mg C fI CS CM) (F : FnB X.prog X.w X.K X.mg X.base 1 fI (spIni C)) (hr : Room j X.A) (hj : 2 ≤ j) (hg : Gl X "InvalidWay") (ha : PA X [e] ta)
    (he : starEach [e] X.env = (false, eval e X.env) :: starEach [] X.env := by rfl) : PMk X (.Call (.Name "InvalidWay" p) [e] [] pos) (tMkO C (spIni C) [] ta) := by
  obtain ⟨fd, ps, F1, hb⟩ := F.ex
  exact pmk_oex T.ex T.iC T.tI F1 (hr.mono hj) hb .nil C8.pass0 hg T.gC ha (by decide) he
theorem mk_way {te : TE} {σ : L2.St} {B H : Hp} {k : Int} {Q : XK} (h : EvD te σ B (.int k)) (s : Same B H) (q : ∀ B1 H1 d, Grow B H B1 H1 → H1 d = none → Q (.ref C) (some d) (upd H1 d (.xd (errW k)))) : tMkO C (spIni C) [] (tCons te tNil) σ H Q :=
  h H s _ fun v B1 H1 g p => by
    obtain rfl := Rp.int_eq p
    refine ⟨by show 1 ≤ 1000; decide, fun a ha => ⟨a, k, rfl, upd_same, fun dx hn hne => ⟨rfl, dx, errW k, ?_, upd_same, ?_, ?_⟩⟩⟩
    · rw [upd_ne (Ne.symm hne), upd_same]
    · rw [upd_ne hne] at hn
      exact hn
    · rw [upd_ne hne] at hn
      have e : upd (L2.del (upd (upd (upd (upd H1 a (exo a C none)) dx (exd dx [("code", .str "InvalidWay")])) a (exo a C (some dx))) dx (exd dx (errW k))) a) dx (.xd (errW k)) = upd H1 dx (.xd (errW k)) := by
        funext b
        by_cases hb : b = dx
        · rw [hb, upd_same, upd_same]
        · rw [upd_ne hb, upd_ne hb]
          by_cases hba : b = a
          · rw [hba, L2.del_same, ha]
          · rw [L2.del_ne hba, upd_ne hb, upd_ne hba, upd_ne hb, upd_ne hba]
      rw [e]
      exact q B1 H1 dx g hn
end
/-! ### defs that may raise -/
structure CalX (P : Program) (w : World) (K : PySem.W.Frag) (mg : Str → Option Value) (base : Heap) (k : Nat) (x : Str) (sp : Sp) : Prop where
  ex : ∃ (f : Addr) (fd : FuncData) (ps : List Str), FnOk P w K mg base (L2.CX P w) k f fd ps sp ∧ mg x = some (.ref f) ∧ PySem.W.keepIn K (.ref f) = true ∧ Binds K fd ps []
abbrev bodyX (P : Program) (w : World) (K : PySem.W.Frag) (mg : Str → Option Value) (base : Heap) (N : List Str) (x : Str) (st : Stmt) (f : Addr) (cdv : Value) (A : Around) (outer : List Env) (s : Shared) (H : Hp) (E : XK) : Cx := cxOf (L2.CX P w) P w K mg base N x (defScope st) f cdv A outer s H E
section
variable {P : Program} {w : World} {K : PySem.W.Frag} {mg : Str → Option Value} {base : Heap}
theorem Dfn.calX {x : Str} {st : Stmt} {ps N : List Str} {k : Nat} {sp : Sp} (F : Dfn K mg x st ps) (S : FnScope N ps (defScope st)) (len : ∀ vs H Q E, sp vs H Q E → vs.length = ps.length)
    (hbody : ∀ (f : Addr) (cdv : Value) (A : Around) (outer : List Env) (s : Shared) (H : Hp) (vs : List V) (Q : VK) (E : XK), Room k (A.deeper (envOfC x (defScope st) s.heap.objs.size f cdv)) → sp vs H Q E →
      ∃ t, PSs (bodyX P w K mg base N x st f cdv A outer s H E) (defBody st) t ∧ t { nx := fun _ H' => Q .non H', rt := Q } (start N vs) H) : CalX P w K mg base (k + 1) x sp := by
  obtain ⟨f, oc, od, kV, doc, pm, an, cdv, ct, osl, h1, h2, h3, h4, h5⟩ := F.ex
  exact ⟨f, _, ps, fn_of h2 h3 S len fun A outer s H vs Q E hr hsp => hbody f cdv A outer s H vs Q E hr hsp, h1, h4, h5⟩
end
section
variable {X : Cx} {k j : Nat} {x : Str} {sp : Sp} {E : XK} {p pos : Pos} {e : Expr} {es : List Expr} {t : TA}
theorem pe_cX (c : CalX X.prog X.w X.K X.mg X.base k x sp) (hr : Room j X.A) (hk : k ≤ j) (hg : Gl X x) (hx : Passes (L2.CX X.prog X.w) X E) (ha : PA X (e :: es) t) (hdb : (x == ("__debug__" : Str)) = false := by decide)
    (he : starEach (e :: es) X.env = (false, eval e X.env) :: starEach es X.env := by rfl) (hpl : (backTo pos (starEach es X.env)).any (·.1) = false := by rfl) : PE X (.Call (.Name x p) (e :: es) [] pos) (tCall sp [] E t) := by
  obtain ⟨f, fd, ps, F, hm, kp, b⟩ := c.ex
  exact pe_call F (hr.mono hk) hg hm kp b .nil hx ha hdb he hpl
end
end Sky

set_option Elab.async false
set_option linter.all false
set_option maxRecDepth 100000
set_option maxHeartbeats 4000000
/-! check_way. -/
namespace Sky
open PySem PySem.Spec PyProof.Rows L2
section
variable {P : Program} {w : World} {K : PySem.W.Frag} {mg : Str → Option Value} {base : Heap} {W : Wd} {C fI CS CM : Addr}
/-- the way out by an error -/
def Wrongs (C : Addr) (o : Option Int) (B H : Hp) (Q : VK) (E : XK) : Prop := (o = none → ∀ B1 H1, Grow B H B1 H1 → Q .non H1) ∧ ∀ k, o = some k → ∀ B1 H1 dd, Grow B H B1 H1 → H1 dd = none → E (.ref C) (some dd) (upd H1 dd (.xd (errW k)))
def spCheck (W : Wd) (C : Addr) : Sp := fun vs H Q E => ∃ (s : Sea) (d : PyData) (B : Hp), SeaOk s ∧ LateOk d ∧ Same B H ∧ ItA B vs [chI W s, dt d] ∧ Wrongs C (wrongV s d) B H Q E
theorem gt_enum {σ : L2.St} {B : Hp} {v : V} {k : Int} {d : PyData} {i j : Nat} (r : Rp B v (.tuple [.int k, d])) : ∃ x, Rp B x d ∧ Gt (gTup K 2 (gCons (gName i) (gCons (gName j) gNil))) v σ B ((σ.set i (some (.int k))).set j (some x)) := by
  obtain ⟨p, xs, rfl, e, r⟩ := Rp.tup_eq r
  cases r with
  | cons r1 r => cases r with
  | cons r2 r =>
    cases r
    obtain rfl := Rp.int_eq r1
    exact ⟨_, r2, gt_tup e rfl (gts_cons gt_name (gts_cons gt_name gts_nil))⟩
theorem s_ifE {t : TT} {tu tv : TS} {σ : L2.St} {B H : Hp} {D : Ends} {b : Bool} (h : EvT t σ B b) (s : Same B H) (h1 : b = true → ∀ B1 H1, Grow B H B1 H1 → tu { D with nx := tv D } σ H1) (h2 : b = false → ∀ B1 H1, Grow B H B1 H1 → tv D σ H1) : tSeq (tIfS t tu tNext) tv D σ H :=
  s_if (D := { D with nx := tv D }) h s h1 h2
theorem sc_check_way : FnScope ["chart", "way", "at", "place"] ["chart", "way"] (defScope s_check_way) := C8.fnScope_by (by decide +kernel)
theorem ok_check_way (T : Bt mg) (Z : Kc K mg W) (X : Wx K mg C fI CS CM) (I : FnB P w K mg base 1 fI (spIni C)) (cfollows : C8.Cal P w K mg base 1 "follows" spFollows []) (mcontains : C8.Met P w K mg base 4 W.cc "__contains__" (spContains W) []) (F : Dfn K mg "check_way" s_check_way ["chart", "way"]) : CalX P w K mg base 5 "check_way" (spCheck W C) := by
  have sc := sc_check_way
  refine F.calX sc (fun vs H Q E ⟨s, d, B, _, _, _, h, _⟩ => by rw [h.length]; rfl) fun f cdv A outer s H vs Q E hr hsp => ?_
  refine ⟨_, (pss_cons (ps_if (PW.pt (pw_or (pt_not (pt_val (pe_callB call_isiT (by rfl) T.n_isinstance bb_isinstance (pa_cons (pv 1) (pa_cons (pe_tup (pa_cons (pe_bltn (v := .ty "list") (by rfl) T.n_list bb_list rfl) (pa_cons (pe_bltn (v := .ty "tuple") (by rfl) T.n_tuple bb_tuple rfl) pa_nil))) pa_nil))))) (pw_or1 (pt_cmpR op_eq (pe_callB call_len_seq (by rfl) T.n_len bb_len (pa_cons (pv 1) pa_nil)) pe_int (nomark _))))) (pss_one (ps_raise rfl (takes_of rfl rfl rfl rfl) (pmk_way X I hr (by decide) (by rfl) (pa_cons (pe_un un_neg pe_int) pa_nil)))) pss_nil)
    (pss_one (ps_for (passes_of rfl) rfl (pi_ei (pi_enum (by rfl) T.n_enumerate (pa_cons (pv 1) pa_nil)) (pi_enumT (by rfl) T.n_enumerate (pa_cons (pv 1) pa_nil))) (pg_tup (n := 2) rfl (pgs_cons (pg_name (i := 2) sc.nd rfl (by first | exact Or.inl rfl | exact Or.inr rfl)) (pgs_cons (pg_name (i := 3) sc.nd rfl (by first | exact Or.inl rfl | exact Or.inr rfl)) pgs_nil)))
      (pss_cons (ps_if (pt_cmpR (op_niOwn mcontains hr (by decide)) (pv 3) (pv 0) (by rfl)) (pss_one (ps_raise rfl (takes_of rfl rfl rfl rfl) (pmk_way X I hr (by decide) (by rfl) (pa_cons (pv 2) pa_nil)))) pss_nil)
      (pss_one (ps_if (PW.pt (pw_and (pt_cmpR op_gt (pv 2) pe_int (nomark _)) (pw_and1 (pt_not (pt_val (C8.pe_c cfollows hr (by decide) (by rfl) (pa_cons (pe_ei (pe_ix ix_list (pv 1) (pe_op op_sub (pv 2) pe_int) (fun _ _ => rfl)) (pe_ix ix_tup (pv 1) (pe_op op_sub (pv 2) pe_int) (fun _ _ => rfl))) (pa_cons (pv 3) pa_nil)))))))) (pss_one (ps_raise rfl (takes_of rfl rfl rfl rfl) (pmk_way X I hr (by decide) (by rfl) (pa_cons (pv 2) pa_nil)))) pss_nil)))))), ?_⟩
  obtain ⟨s, d, B, ok, late, s0, ha, wn, we⟩ := hsp
  obtain ⟨v1, v2, rfl, h1, h2⟩ := ita2 ha
  cases hs : seqOf d with
  | none =>
    have hw : wrongV s d = some (-1) := by
      unfold wrongV
      rw [hs]
    refine s_ifE (b := true) ((et_or (b := true) (c := true) ((et_not (et_B (ev_isiLT (ev_var h2)))).is (by rw [seqOf_bool, hs]; rfl)) fun e => nomatch e).is rfl) s0 (fun _ B1 H1 g1 => ?_) fun e => nomatch e
    exact mk_way (ev_un (g := fun i => -i) (ev_int (i := 1))) g1.sub fun B2 H2 dd g2 hd => we (-1) hw B2 H2 dd (g1.trans g2) hd
  | some xs =>
    have hl := (late.seq hs).1
    refine s_ifE (b := decide ((xs.length : Int) = 0)) ((et_or (b := false) ((et_not (et_B (ev_isiLT (ev_var h2)))).is (by rw [seqOf_bool, hs]; rfl)) fun _ => et_test (ev_eqI (ev_cb (ea1 (ev_var h2)) (rc_lenS hs)) (ev_int (i := 0)))).is (Bool.false_or _)) s0 (fun e B1 H1 g1 => ?_) fun e B1 H1 g1 => ?_
    · have e := of_decide_eq_true e
      have hw : wrongV s d = some (-1) := by
        unfold wrongV
        rw [hs]
        dsimp only
        rw [if_pos (by omega)]
      exact mk_way (ev_un (g := fun i => -i) (ev_int (i := 1))) g1.sub fun B2 H2 dd g2 hd => we (-1) hw B2 H2 dd (g1.trans g2) hd
    · have e := of_decide_eq_false e
      have hw : wrongV s d = (badK s xs).map fun k => (k : Int) := by
        unfold wrongV
        rw [hs]
        dsimp only
        rw [if_neg (by omega)]
      have h1 := (chI W s).mono g1.base h1
      have h2 : Rp B1 v2 d := Rp.mono (Sd.of g1.base) h2
      refine s_for (wk_enumS hs (ev_var h2)) g1.sub fun B2 H2 g2 => ⟨fun i σ B' H' => (∃ a b, σ = [some v1, some v2, a, b]) ∧ Grow B1 H1 B' H' ∧ ∀ j, j < i → okB s xs j = true, ⟨⟨_, _, rfl⟩, g2, fun j hj => absurd hj (Nat.not_lt_zero j)⟩, ?_, ?_⟩
      · rintro i x σ B3 H3 B4 H4 li ⟨⟨a, b, rfl⟩, g3, hok⟩ s3 g4 px
        have px : Rp B4 x (.tuple [.int (i : Nat), xs.getD i .none]) := px
        obtain ⟨y, ry, hg⟩ := gt_enum (K := K) (i := 2) (j := 3) (σ := [some v1, some v2, a, b]) px
        refine ⟨_, hg, ?_⟩
        have g34 := g3.trans g4
        have h1 := (chI W s).mono g34.base h1
        have h2 : Rp B4 v2 d := Rp.mono (Sd.of g34.base) h2
        have bad : okB s xs i = false → ∀ B5 H5 dd, Grow B4 H4 B5 H5 → H5 dd = none → E (.ref C) (some dd) (upd H5 dd (.xd (errW (i : Nat)))) := fun hb B5 H5 dd g5 hd =>
          we (i : Nat) (by rw [hw, badK_at li hok hb]; rfl) B5 H5 dd ((g1.trans g34).trans g5) hd
        have good : okB s xs i = true → ∀ B5 H5, Grow B4 H4 B5 H5 → Nxt B2 (fun σ B' H' => (∃ a b, σ = [some v1, some v2, a, b]) ∧ Grow B1 H1 B' H' ∧ ∀ j, j < i + 1 → okB s xs j = true) [some v1, some v2, some (.int (i : Nat)), some y] H5 := fun hb B5 H5 g5 =>
          ⟨B5, s3.trans (g4.base.trans g5.base), g5.sub, ⟨_, _, rfl⟩, g34.trans g5, fun j hj => by
            by_cases e : j = i
            · rw [e]
              exact hb
            · exact hok j (by omega)⟩
        refine s_ifE (b := !inCh s (xs.getD i .none)) (et_test (ev_op (ev_var (I := dt (xs.getD i .none)) ry) (ev_var h1) (rv_ni (bb := fun x : Sea × PyData => inCh x.1 x.2) (s, xs.getD i .none) (fun _ => rfl) chI.obj rfl ok))) g4.sub (fun e B5 H5 g5 => ?_) fun e B5 H5 g5 => ?_
        · have e : inCh s (xs.getD i .none) = false := by simpa using e
          exact mk_way (ev_var (I := dt (.int (i : Nat))) (.int _)) g5.sub fun B6 H6 dd g6 hd => bad (okB_no e) B6 H6 dd (g5.trans g6) hd
        · have e : inCh s (xs.getD i .none) = true := by simpa using e
          obtain ⟨p, hp, hps⟩ := inCh_of e
          have ry5 : Rp B5 y (dP p) := by
            have := Rp.mono (Sd.of g5.base) ry
            rw [hp] at this
            exact this
          have h25 : Rp B5 v2 d := Rp.mono (Sd.of g5.base) h2
          cases i with
          | zero =>
            refine s_if (b := false) ((et_and (b := false) (c := false) ((et_test (ev_ib (ev_var (I := dt (.int ((0 : Nat) : Int))) (.int _)) (ev_int (i := 0)))).is (by decide)) fun e => nomatch e).is rfl) g5.sub (fun e => nomatch e) fun _ B6 H6 g6 => ?_
            exact good (by rw [okB_zero hp]; exact decide_eq_true hps) B6 H6 (g5.trans g6)
          | succ i =>
            obtain ⟨o, ho, _⟩ := okB_pl (hok i (Nat.lt_succ_self i))
            have li' : i < xs.length := by omega
            have ao : atI xs (((i + 1 : Nat) : Int) - 1) = some (dP o) := by
              have e1 : ((i + 1 : Nat) : Int) - 1 = ((i : Nat) : Int) := by omega
              rw [e1]
              have e2 : xs.getD i .none = xs[i] := by simp [List.getD, li']
              rw [← ho, e2]
              exact atI_nat' li'
            refine s_if (b := !followsB o p) ((et_and (b := true) (c := !followsB o p) ((et_test (ev_ib (ev_var (I := dt (.int ((i + 1 : Nat) : Int))) (.int _)) (ev_int (i := 0)))).is (decide_eq_true (by omega))) fun _ => et_not (et_B (ev_call (o, p) (ea_cons (ev_ixS hs (ev_var (I := dt d) h25) (ev_i (ev_var (I := dt (.int ((i + 1 : Nat) : Int))) (.int _)) (ev_int (i := 1))) ao) (ea1 (ev_var (I := dt (dP p)) ry5))) trivial))).is (Bool.true_and _)) g5.sub (fun e B6 H6 g6 => ?_) fun e B6 H6 g6 => ?_
            · have e : followsB o p = false := by simpa using e
              exact mk_way (ev_var (I := dt (.int ((i + 1 : Nat) : Int))) (.int _)) g6.sub fun B7 H7 dd g7 hd => bad (by rw [okB_succ ho hp, e, Bool.and_false]) B7 H7 dd ((g5.trans g6).trans g7) hd
            · have e : followsB o p = true := by simpa using e
              exact good (by rw [okB_succ ho hp, e, decide_eq_true hps]; rfl) B6 H6 (g5.trans g6)
      · rintro σ B3 H3 ⟨⟨a, b, rfl⟩, g3, hok⟩ s3 s4
        exact wn (by rw [hw, badK_none hok]; rfl) B3 H3 (g1.trans g3)
end
end Sky

set_option Elab.async false
set_option linter.all false
set_option maxRecDepth 100000
set_option maxHeartbeats 4000000
/-! try: .. except (A, B) as n: ..; a caught error handed to a def that reads it. -/
namespace Sky
open PySem PySem.Spec PyProof.Rows L2
theorem flying_keep {B h h' : Heap} {l : List Env} {e : Addr} {Z : Obj → Prop} (x : HandSPX.FlyingZ B l e Z h) (k : ∀ b o, h.get? b = some o → h'.get? b = some o) : HandSPX.FlyingZ B l e Z h' := by
  obtain ⟨a1, a2, a3, oe, vs, T, oT, ts, b1, b2, b3, b4, b5, b6, b7, b8, b9⟩ := x
  exact ⟨fun b o q => k b o (a1 b o q), a2, a3.of_keeps fun b o q _ => ⟨o, k b o q, rfl⟩, oe, vs, T, oT, ts, k _ _ b1, b2, b3, b4, b5, b6, k _ _ b7, b8, b9⟩
/-- the clause's wish: it is one of both -/
def wAsT (K : PySem.W.Frag) (c1 c2 : Value) (i : Nat) (ts : Addr → Value → Option Addr → TS) (D : Ends) : WX := fun cls d σ H =>
  PySem.W.exmAny K cls [c1, c2] = some true ∧ ∀ a, H a = none → ts a cls d { nx := fun σ' H' => D.nx (σ'.set i none) H', rt := D.rt, bk := fun σ' H' => D.bk (σ'.set i none) H', ct := fun σ' H' => D.ct (σ'.set i none) H' } (σ.set i (some (.ref a))) H
section
variable {X : Cx} {x1 x2 n : Str} {c1 c2 : Value} {i kk : Nat} {body suite : List Stmt} {b₀ : Stmt} {np1 np2 tp pos pos' : Pos} {tb : WX → TS} {ts : Addr → Value → Option Addr → TS}
theorem name_ev {pins : List (Addr × Obj)} {σ : L2.St} {H : Hp} {s : Shared} {x : Str} {c : Value} {np : Pos} {Q : Value → Shared → Prop} {E : Value → Shared → Prop} (I : Inv X pins σ H s) (hc : Names X x c) (q : Q c s) : wpAny (model X.prog X.w) X.A (eval (.Name x np) X.env) Q E s := by
  obtain ⟨hg, hdb, hm | ⟨hm, hv, hnn⟩⟩ := hc
  · exact ld_glob I hg hm q hdb
  · exact ld_blt I hg hm hv q hnn hdb
theorem ps_try_asT (hs : X.stack = X.env :: X.outer) (hf : X.env.frame = some X.env.locals) (hN : X.N.Nodup) (hi : X.N[i]? = some n) (hln : X.env.kindOf n = some .local) (hc1 : Names X x1 c1) (hc2 : Names X x2 c2)
    (hb : ∀ (W : WX) (pn : List (Addr × Obj)) (xe : Value → Shared → Prop), Takes (X.tr pn xe) W → PSs (X.tr pn xe) body (tb W))
    (hsu : ∀ (a : Addr) (oe : Obj) (cls : Value) (d : Option Addr) (pn : List (Addr × Obj)), Zc cls d oe → (∃ vs, oe.data = .fields vs) → PSs (X.suite a ((a, oe) :: pn)) (b₀ :: suite) (ts a cls d)) :
    PS X (.Try body [.ExceptHandler (some (.Tuple [.Name x1 np1, .Name x2 np2] kk tp)) (some n) (b₀ :: suite) pos'] [] [] pos) (fun D σ H => tb (wAsT X.K c1 c2 i ts D) D σ H) := by
  refine ⟨fun pins s σ H D I h => ?_⟩
  have ok := I.ok
  have hfr : X.A.frames = some (X.env :: X.outer) := by rw [ok.frames, hs]
  have hloc : Loc X.env.scope n := .inl hln
  refine wpAny_Try_except ?_
  refine wpAny_mono ((hb (wAsT X.K c1 c2 i ts D) (X.pn ++ pins) _ (fun u s' xx => ?_)).run [] s σ H D (I.toTry _) h) (fun f s1 hsp => ?_) (fun e s1 he => he)
  · obtain ⟨a, B, sI, pins', σ', H', cls, d, rfl, J', nb, up, sky, na, os, ag, hb1, hyes⟩ := xx
    have J : Inv X pins σ' H' sI := J'.ofTry ok
    have sky : Sky B (X.env :: X.outer) a (Zc cls d) X.env.locals s'.heap := by
      rw [← hs]
      exact sky
    refine Sky.land Zc.steady hfr hf sky fun h3 fl3 up3 => ?_
    have J3 : Inv X pins σ' H' { s' with heap := h3 } := J.landed nb fl3.1 (up.trans up3) os ag
    obtain ⟨o3, w3, he3, hz3, hd3⟩ := fl3.there
    have nfr : a ∉ frs (X.env :: X.outer) := fun hm => by
      obtain ⟨_, o', e', hnf⟩ := fl3.2.2.1.mem hm
      rw [he3] at e'
      cases e'
      exact hnf _ hd3
    have nL : a ≠ X.env.locals := fun z => nfr (List.mem_filterMap.mpr ⟨X.env, List.mem_cons_self, by rw [hf, z]⟩)
    have nF : a ∉ X.fs := fun hm => by
      obtain ⟨e, he, q⟩ := List.mem_filterMap.mp hm
      exact nfr (List.mem_filterMap.mpr ⟨e, List.mem_cons_of_mem _ he, q⟩)
    have S3 := J3.suite he3 hd3 na nL nF
    refine wpAny_handleBy_cons (codeAny_handlers_test ?_) (by intro q; cases q)
    have k5 : ∀ b o, h3.get? b = some o → (h3.push { cls := .type "tuple", data := .seq [c1, c2].toArray }).get? b = some o := fun _ _ z => Heap.get?_push_of_some _ z
    have fl5 := flying_keep fl3 k5
    have LT : PySem.W.Looks (model X.prog X.w) (h3.push { cls := .type "tuple", data := .seq [c1, c2].toArray }) (typeOf (.ref a)) cls := fun A Q E s k q => wpAny_typeOf_ref (k _ _ (k5 _ _ he3)) (by rw [hz3.1]; exact q)
    have LM := PySem.W.exm_tup2 (M := model X.prog X.w) (J3.kIn.keeps k5) LT (Heap.get?_push_size h3 rfl) hb1
    refine wpAny_Tuple (wpAny_items_cons (name_ev S3 (x := x1) hc1 (wpAny_items_cons (name_ev S3 (x := x2) hc2 (wpAny_items_nil ⟨by size_fits, LM.here ?_⟩)))))
    refine codeAny_handlers_suite_as ?_
    refine HandSPX.lands_againZ fl5 fun h4 fl4 up4 => ?_
    have J4 : Inv X pins σ' H' { s' with heap := h4 } := J.landed nb fl4.1 (((up.trans up3).trans (Heap.UpToSlots.of_keeps k5)).trans up4) os ag
    obtain ⟨o4, w4, he4, hz4, hd4⟩ := fl4.there
    have S4 := J4.suite he4 hd4 na nL nF
    refine store_ok (X := X.suite a ((a, o4) :: (X.pn ++ pins))) (v := .ref a) S4 hN hi hloc rfl (fun s5 S5 => ?_) (.inr hln)
    refine wpAny_mono ((hsu a o4 cls d (X.pn ++ pins) hz4 ⟨_, hd4⟩).run [] s5 _ H' _ S5 (hyes a na)) (fun f s6 hsp => ?_) (fun _ _ z => False.elim z)
    cases f with
    | next =>
      obtain ⟨σ6, H6, S6, q6⟩ := hsp
      exact gone_ok (S6.unsuite ok) hN hi hln fun s7 J7 => ⟨_, _, J7, q6⟩
    | brk =>
      obtain ⟨σ6, H6, S6, q6⟩ := hsp
      exact gone_ok (S6.unsuite ok) hN hi hln fun s7 J7 => ⟨_, _, J7, q6⟩
    | cont =>
      obtain ⟨σ6, H6, S6, q6⟩ := hsp
      exact gone_ok (S6.unsuite ok) hN hi hln fun s7 J7 => ⟨_, _, J7, q6⟩
    | ret u =>
      obtain ⟨v6, σ6, H6, S6, r6, q6⟩ := hsp
      exact gone_ok (S6.unsuite ok) hN hi hln fun s7 J7 => ⟨_, _, _, J7, r6, q6⟩
  · cases f with
    | next =>
      obtain ⟨σ', H', J', q⟩ := hsp
      exact wpAny_execs_nil ⟨σ', H', J'.ofTry ok, q⟩
    | brk =>
      obtain ⟨σ', H', J', q⟩ := hsp
      exact ⟨σ', H', J'.ofTry ok, q⟩
    | cont =>
      obtain ⟨σ', H', J', q⟩ := hsp
      exact ⟨σ', H', J'.ofTry ok, q⟩
    | ret u =>
      obtain ⟨v, σ', H', J', r, q⟩ := hsp
      exact ⟨v, σ', H', J'.ofTry ok, r, q⟩
/-! ### the field of a held error -/
theorem pe_xfP {p : Addr × Obj} {C : Addr} {cls : Value} {d : Option Addr} {e : Expr} {te : TE} {f : Str} (hp : p ∈ X.pn) (T : XfC X.K C) (hno : PySem.W.findIn X.K (.ref C) f = some none) (hz : Zc cls d p.2) (hf : ∃ vs, p.2.data = .fields vs) (he : PE X e te)
    (hb : attributeBase e f X.env (eval e X.env) = eval e X.env := by rfl) : PE X (.Attribute e f pos) (tXf p.1 cls d C f te) := by
  refine ⟨fun pins s σ H Q I h => ?_⟩
  refine attr_of hb (thn (he.run pins s σ H _ I h) fun u s1 ⟨x, H1, I1, rx, ex, ec, dd, fs, v, ed, ea, l, q⟩ => ?_)
  subst ex
  obtain rfl : u = Value.ref p.1 := rx
  subst ec
  subst ed
  obtain ⟨ha, _⟩ := I1.pin p (List.mem_append_left _ hp)
  obtain ⟨vs, hd⟩ := hf
  obtain ⟨mA, hns, hr⟩ := (show ObjOk X.prog X.w H1 s1.heap dd (.xd fs) from I1.hok dd _ ea)
  obtain ⟨od, ho, hl⟩ := lookIn_ns hns
  obtain ⟨u, hu, ru⟩ := RelO.some_of (v := v) (o := mA f) (by rw [← l]; exact hr f)
  have J : PySem.W.InstAt s1.heap p.1 p.2 C (some od) := ⟨ha, hz.1, by unfold PySem.W.notCls; rw [hd] <;> rfl, by rw [hz.2]; exact ho⟩
  exact HandSPX.exc_get I1.kIn J T.ga T.gg T.exC (PySem.W.findObj_own T.hdC hno rfl (by rw [hl, hu])) (handed_of ru) ⟨v, H1, I1.tok _, ru, q⟩
end
/-! ### a def that is handed a held error -/
structure FnE (P : Program) (w : World) (K : PySem.W.Frag) (mg : Str → Option Value) (base : Heap) (k : Nat) (x : Str) (sp : Addr → Value → Option Addr → Sp) : Prop where
  ex : ∃ (f : Addr) (fd : FuncData) (ps : List Str), mg x = some (.ref f) ∧ PySem.W.keepIn K (.ref f) = true ∧ Binds K fd ps [] ∧ (∀ a cls d vs H Q E, sp a cls d vs H Q E → vs.length = ps.length) ∧
    ∀ (A : Around) (outer : List Env) (s : Shared) (H : Hp) (args : Args) (us : List Value) (vs : List V) (Q : VK) (p : Addr × Obj) (cls : Value) (d : Option Addr), L2H.RoomH k A → L2H.PinOk outer H s p → Zc cls d p.2 → (∃ vs, p.2.data = .fields vs) → Env0 P w K mg base A outer s H →
      BindsTo s fd args (ps.zip us) → Vals vs us → sp p.1 cls d vs H Q C8.E0 → codeAny (model P w) A (.call (.ref f) args) (CR C8.CX0 outer P w H s Q C8.E0) s
section
variable {P : Program} {w : World} {K : PySem.W.Frag} {mg : Str → Option Value} {base : Heap}
abbrev bodyE (P : Program) (w : World) (K : PySem.W.Frag) (mg : Str → Option Value) (base : Heap) (N : List Str) (x : Str) (st : Stmt) (f : Addr) (cdv : Value) (A : Around) (outer : List Env) (s : Shared) (H : Hp) (p : Addr × Obj) : Cx := L2H.cxH C8.CX0 P w K mg base N x (defScope st) f cdv A outer s H C8.E0 p
theorem Dfn.fnE {x : Str} {st : Stmt} {ps N : List Str} {k : Nat} {sp : Addr → Value → Option Addr → Sp} (F : Dfn K mg x st ps) (S : FnScope N ps (defScope st)) (len : ∀ a cls d vs H Q E, sp a cls d vs H Q E → vs.length = ps.length)
    (hbody : ∀ (f : Addr) (cdv : Value) (A : Around) (outer : List Env) (s : Shared) (H : Hp) (vs : List V) (Q : VK) (p : Addr × Obj) (cls : Value) (d : Option Addr), Zc cls d p.2 → (∃ vs, p.2.data = .fields vs) → L2H.RoomH k (A.deeper (envOfC x (defScope st) s.heap.objs.size f cdv)) → sp p.1 cls d vs H Q C8.E0 →
      ∃ t, PSs (bodyE P w K mg base N x st f cdv A outer s H p) (defBody st) t ∧ t { nx := fun _ H' => Q .non H', rt := Q } (start N vs) H) : FnE P w K mg base (k + 1) x sp := by
  obtain ⟨f, oc, od, kV, doc, pm, an, cdv, ct, osl, h1, h2, h3, h4, h5⟩ := F.ex
  refine ⟨f, _, ps, h1, h4, h5, len, fun A outer s H args us vs Q p cls d hr hpin hz hdt e0 hb r hsp => ?_⟩
  have hl := len _ _ _ _ _ _ _ hsp
  have KX : K.In s.heap := e0.mod.kin.keeps fun b o e => (e0.bs b o e).1
  have lim : s.heap.NoLimit := e0.mod.nolimit.keeps fun b o e => (e0.bs b o e).1
  have hkind : ∀ y ∈ ps.zip us, (defScope st).names.lookup y.1 = some .local ∨ ((defScope st).names.lookup y.1 = some .cell ∧ ((cellsFrom (s.heap.objs.size + 1) (defScope st).names []).lookup y.1).isSome = true) := fun ⟨n, v⟩ hy =>
    (S.par n (List.of_mem_zip hy).1).elim .inl fun q => .inr ⟨q, PySem.W.cellsFrom_some _ _ _ (.inl q)⟩
  refine codeAny_call_function hr.depth (KX _ _ h2) rfl S.co S.gen rfl (PySem.W.codeRec_of KX h3) (hb _ _ _ _ ?_)
  refine wpAny_newFunctionEnv_cells S.kind hkind fun env he s1 x => ?_
  subst he
  refine ⟨lim.keeps x.toInCall.keep, codeAny_func ?_⟩
  obtain ⟨t, ht, hq⟩ := hbody f cdv A outer s H vs Q p cls d hz hdt (hr.deeper _) hsp
  have I := L2H.inv_startH (CX := C8.CX0) (E := C8.E0) S hpin e0 hl r x
  refine wpAny_mono (ht.run [] s1 (L2.start N vs) H _ I hq) (fun fl s' hs => ?_) fun e s' hs => hs
  cases fl with
  | ret u =>
    obtain ⟨v, σ', H', J, rv, q⟩ := hs
    exact ⟨v, H', J.os, J.bare, J.base, J.hok, rv, q⟩
  | next =>
    obtain ⟨σ', H', J, q⟩ := hs
    exact ⟨.non, H', J.os, J.bare, J.base, J.hok, rfl, q⟩
  | brk =>
    obtain ⟨_, _, _, q⟩ := hs
    exact False.elim q
  | cont =>
    obtain ⟨_, _, _, q⟩ := hs
    exact False.elim q
end
section
variable {X : Cx} {k j : Nat} {x : Str} {sp : Addr → Value → Option Addr → Sp} {p : Addr × Obj} {cls : Value} {d : Option Addr} {q pos : Pos} {e : Expr} {es : List Expr} {t : TA}
def tCallE (sp : Addr → Value → Option Addr → Sp) (a : Addr) (cls : Value) (d : Option Addr) (t : TA) : TE := fun σ H Q => t σ H fun vs H1 => sp a cls d vs H1 Q C8.E0
theorem pe_cE (c : FnE X.prog X.w X.K X.mg X.base k x sp) (hr : L2H.RoomH k X.A) (hp : p ∈ X.pn) (hz : Zc cls d p.2) (hf : ∃ vs, p.2.data = .fields vs) (hg : Gl X x) (ha : PA X (e :: es) t) (hdb : (x == ("__debug__" : Str)) = false := by decide)
    (he : starEach (e :: es) X.env = (false, eval e X.env) :: starEach es X.env := by rfl) (hpl : (backTo pos (starEach es X.env)).any (·.1) = false := by rfl) : PE X (.Call (.Name x q) (e :: es) [] pos) (tCallE sp p.1 cls d t) := by
  obtain ⟨f, fd, ps, hm, kp, b, len, run⟩ := c.ex
  refine ⟨fun pins s σ H Q I h => ?_⟩
  refine wpAny_Call_Name_kw (ld_glob I hg hm ?_ hdb)
  refine PySem.W.callWith_K (h₀ := X.base) I.ok.mod.kin kp (thn (ha.run pos pins s σ H _ I h) fun us s1 ⟨vs, H1, I1, r, z⟩ => ⟨I1.kIn, ?_⟩) he hpl
  have hl : us.length = ps.length := by
    rw [← r.length]
    exact len _ _ _ _ _ _ _ z
  have b := b s1 us I1.kIn (by rw [List.append_nil]; exact hl)
  rw [List.append_nil] at b
  have P1 := I1.pin p (List.mem_append_left _ hp)
  have hpin : L2H.PinOk X.stack H1 s1 p := ⟨P1.1, P1.2.1, fun hm => (List.mem_cons.mp (I1.stkSub p.1 hm)).elim P1.2.2.1 P1.2.2.2.1, P1.2.2.2.2⟩
  refine wpAny_call (codeAny_mono (run X.A X.stack s1 H1 ⟨us, []⟩ us vs Q p cls d hr hpin hz hf I1.env0 b r z) fun r s' hq => ?_)
  cases r with
  | error e => exact False.elim hq
  | ok fl =>
    cases fl with
    | ret u => exact I1.after hq
    | next => exact False.elim hq
    | brk => exact False.elim hq
    | cont => exact False.elim hq
end
end Sky

set_option Elab.async false
set_option linter.all false
set_option maxRecDepth 100000
set_option maxHeartbeats 4000000
/-! _law_field; a lambda that goes through two defs: _law_why, _law_refused. -/
namespace Sky
open PySem PySem.Spec PyProof.Rows L2
/-! ### _law_field -/
theorem if_yes {c : Bool} {A B : Prop} (hc : c = true) (h : A) : if c = true then A else B := by
  rw [if_pos hc]
  exact h
theorem if_no {c : Bool} {A B : Prop} (hc : c = false) (h : B) : if c = true then A else B := by
  rw [hc, if_neg Bool.false_ne_true]
  exact h
theorem grow_tup {A A1 B1 : Hp} {p : Addr} {xs : List V} (s : Same A A1) (t : Same A1 B1) (h : B1 p = some (.tup xs)) : Grow A A1 (upd A p (.tup xs)) B1 := by
  have hA : ∀ o, A p = some o → o = .tup xs := fun o e => by
    have := t p o (s p o e)
    rw [h] at this
    exact (Option.some.inj this).symm
  refine ⟨fun b o e => ?_, t, fun b o e => ?_, fun b o e n nt => ?_⟩
  · by_cases hb : b = p
    · subst hb
      rw [upd_same, hA o e]
    · rw [upd_ne hb]
      exact e
  · by_cases hb : b = p
    · subst hb
      rw [upd_same] at e
      cases e
      exact h
    · rw [upd_ne hb] at e
      exact t b o (s b o e)
  · have hb : b ≠ p := fun z => by
      subst z
      have := t b o n
      rw [h] at this
      cases this
      exact nt xs rfl
    rw [upd_ne hb]
    exact e
def spFld (C : Addr) : Addr → Value → Option Addr → Sp := fun a cls d vs H Q _ => ∃ (k : Int) (dd : Addr), vs = [.ref a] ∧ cls = .ref C ∧ d = some dd ∧ H dd = some (.xd (errW k)) ∧ ∀ H' p, Same H H' → H' p = some (.tup [.int k]) → Q (.ref p) H'
def codes1 : List V := [.str "InvalidNumber", .str "InvalidGauge", .str "InvalidMirror", .str "NoBranch", .str "OnLand", .str "InvalidMeasure", .str "UnknownPlace", .str "UnknownSaying", .str "UnknownGauge", .str "UnknownCase"]
def codes2 : List V := [.str "InvalidRegion", .str "InvalidSaying", .str "InvalidStation", .str "InvalidWay", .str "InvalidWind"]
theorem not1 : inV (.str "InvalidWay") codes1 = false := by decide +kernel
theorem in2 : inV (.str "InvalidWay") codes2 = true := by decide +kernel
section
variable {P : Program} {w : World} {K : PySem.W.Frag} {mg : Str → Option Value} {base : Heap} {W : Wd} {C fI CS CM : Addr}
theorem sc_law_field : FnScope ["_law_e"] ["_law_e"] (defScope s__law_field) := C8.fnScope_by (by decide +kernel)
theorem ok_law_field (X : Wx K mg C fI CS CM) (F : Dfn K mg "_law_field" s__law_field ["_law_e"]) : FnE P w K mg base 1 "_law_field" (spFld C) := by
  have sc := sc_law_field
  refine F.fnE sc (fun a cls d vs H Q E ⟨k, dd, e, _⟩ => by rw [e]; rfl) fun f cdv A outer s H vs Q p cls d hz hf hr hsp => ?_
  have hp : p ∈ (bodyE P w K mg base ["_law_e"] "_law_field" s__law_field f cdv A outer s H p).pn := List.mem_singleton.mpr rfl
  refine ⟨_, pss_cons (ps_if (pt_cmpR op_in_seq (pe_xfP hp X.xf X.nCode hz hf (pv 0)) (pe_tup (pa_cons pe_str (pa_cons pe_str (pa_cons pe_str (pa_cons pe_str (pa_cons pe_str (pa_cons pe_str (pa_cons pe_str (pa_cons pe_str (pa_cons pe_str (pa_cons pe_str pa_nil))))))))))) (by rfl)) (pss_one ps_never) pss_nil)
    (pss_cons (ps_if (pt_cmpR op_in_seq (pe_xfP hp X.xf X.nCode hz hf (pv 0)) (pe_tup (pa_cons pe_str (pa_cons pe_str (pa_cons pe_str (pa_cons pe_str (pa_cons pe_str pa_nil)))))) (by rfl)) (pss_one (ps_ret (pe_tup (pa_cons (pe_xfP hp X.xf X.nAt hz hf (pv 0)) pa_nil)))) pss_nil)
    (pss_cons ps_never (pss_one ps_never))), ?_⟩
  obtain ⟨k, dd, rfl, rfl, rfl, hd, q⟩ := hsp
  refine ⟨.ref p.1, rfl, rfl, rfl, dd, errW k, .str "InvalidWay", rfl, hd, rfl, ?_⟩
  refine ⟨by decide, fun p1 hp1 => ⟨p1, codes1, rfl, .inr (SqT.of upd_same), rfl, rfl, _, rfl, if_no not1 ?_⟩⟩
  have s1 : Same H (upd H p1 (.tup codes1)) := same_new hp1
  refine ⟨.ref p.1, rfl, rfl, rfl, dd, errW k, .str "InvalidWay", rfl, s1 _ _ hd, rfl, ?_⟩
  refine ⟨by decide, fun p2 hp2 => ⟨p2, codes2, rfl, .inr (SqT.of upd_same), rfl, rfl, _, rfl, if_yes in2 ?_⟩⟩
  have s2 : Same H (upd (upd H p1 (.tup codes1)) p2 (.tup codes2)) := s1.trans (same_new hp2)
  refine ⟨.ref p.1, rfl, rfl, rfl, dd, errW k, .int k, rfl, s2 _ _ hd, rfl, (by show 1 ≤ sizeLine; decide), fun p3 hp3 => ?_⟩
  exact q _ p3 (s2.trans (same_new hp3)) upd_same
end
end Sky

set_option Elab.async false
set_option linter.all false
set_option maxRecDepth 100000
set_option maxHeartbeats 4000000
/-! A function object that goes through two defs: _law_why, _law_refused. -/
namespace Sky
open PySem PySem.Spec PyProof.Rows L2
/-- a function object without parameters that was made at (H0, s0), over the frames fs: what its call does wherever things have gone on from there -/
structure ActOk (P : Program) (w : World) (K : PySem.W.Frag) (mg : Str → Option Value) (base : Heap) (k : Nat) (fs : List Addr) (H0 : Hp) (s0 : Shared) (f : Addr) (tl : XK → Hp → VK → Prop) : Prop where
  fn : ∀ (H : Hp) (s : Shared), Un fs [] H0 H s0.heap s.heap → PySem.W.FnAt f s.heap
  run : ∀ (A : Around) (outer : List Env) (s : Shared) (H : Hp) (Q : VK) (E : XK), Room (k + 1) A → Env0 P w K mg base A outer s H → Un fs [] H0 H s0.heap s.heap → tl E H Q → codeAny (model P w) A (.call (.ref f) ⟨[], []⟩) (CR (L2.CX P w) outer P w H s Q E) s
/-- X was entered behind that -/
structure Lead (fs : List Addr) (H0 : Hp) (s0 : Shared) (X : Cx) : Prop where
  un : Un fs [] H0 X.H_0 s0.heap X.s_0.heap
  fr : ∀ b ∈ X.fs, b ∉ fs → s0.heap.get? b = none
  ex : X.ex = []
theorem un_thru {fs fs' : List Addr} {H0 H1 H2 : Hp} {h0 h1 h2 : Heap} (a : Un fs [] H0 H1 h0 h1) (b : Un fs' [] H1 H2 h1 h2) (hf : ∀ x ∈ fs', x ∉ fs → h0.get? x = none) : Un fs [] H0 H2 h0 h2 where
  keep := fun c o q n hc hx => b.keep c o (a.keep c o q n hc hx) (a.free c o q n hx) (fun z => by rw [hf c z hc] at q; cases q) hx
  slot := fun c o q n hc hx => by
    obtain ⟨sl, e1⟩ := a.slot c o q n hc hx
    obtain ⟨sl', e2⟩ := b.any e1 (a.free c o q n hx) hx
    exact ⟨sl', e2⟩
  free := fun c o q n hx => by
    obtain ⟨o', e1⟩ := a.there c o q hx
    exact b.free c o' e1 (a.free c o q n hx) hx
  there := fun c o q hx => by
    obtain ⟨o', e1⟩ := a.there c o q hx
    exact b.there c o' e1 hx
  tups := fun c xs q => b.tups c xs (a.tups c xs q)
  frzs := fun c o xs q => b.frzs c o xs (a.frzs c o xs q)
  tbls := fun c ps q => by
    obtain ⟨m1, e1⟩ := a.tbls c ps q
    obtain ⟨m2, e2⟩ := b.tbls c _ e1
    exact ⟨m1 ++ m2, by rw [e2, Array.append_assoc]⟩
section
variable {X : Cx} {pins : List (Addr × Obj)} {σ : L2.St} {H H0 : Hp} {s s0 : Shared} {fs : List Addr} {f : Addr} {tl : XK → Hp → VK → Prop} {k : Nat}
theorem Lead.at_ (L : Lead fs H0 s0 X) (I : Inv X pins σ H s) : Un fs [] H0 H s0.heap s.heap := un_thru L.un (L.ex ▸ I.base) L.fr
theorem Lead.stk (L : Lead fs H0 s0 X) (I : Inv X pins σ H s) : ∀ b ∈ frs X.stack, b ∉ fs → s0.heap.get? b = none := fun b hb hn => by
  rcases List.mem_cons.mp (I.stkSub b hb) with e | h
  · cases q : s0.heap.get? b with
    | none => rfl
    | some o =>
      obtain ⟨o', h⟩ := L.un.there b o q (by simp)
      have h1 := Heap.lt_size h
      have h2 := I.ok.above
      rw [e] at h1
      exact absurd (Nat.lt_of_lt_of_le h1 h2) (Nat.lt_irrefl _)
  · exact L.fr b h hn
/-- a def that is called from there is entered behind it, too -/
theorem Lead.call (L : Lead fs H0 s0 X) (I : Inv X pins σ H s) {CX : CXT} {N : List Str} {x : Str} {sc : Scope} {g : Addr} {cd : Value} {E : XK} : Lead fs H0 s0 (cxOf CX X.prog X.w X.K X.mg X.base N x sc g cd X.A X.stack s H E).nox :=
  ⟨L.at_ I, L.stk I, rfl⟩
/-- it is called by a name -/
theorem pe_actF {W : WX} {i : Nat} {a : Str} {p1 p2 : Pos} (L : Lead fs H0 s0 X) (F : ActOk X.prog X.w X.K X.mg X.base k fs H0 s0 f tl) (tk : Takes X W) (hr : Room (k + 1) X.A) (hN : X.N[i]? = some a) (hv : Vis X.env.scope a) (hd : (a == ("__debug__" : Str)) = false := by decide) (hcd : (a == ("__classdict__" : Str)) = false := by decide) :
    PE X (.Call (.Name a p1) [] [] p2) (fun σ H Q => σ[i]? = some (some (.ref f)) ∧ tl (fun cls d H' => W cls d σ H') H Q) := by
  refine ⟨fun pins s σ H Q I ⟨hs, ht⟩ => ?_⟩
  refine wpAny_Call_Name_kw (thn ((pe_var (pos := p1) (i := i) hN hv hd hcd).run pins s σ H (fun v H1 => v = .ref f ∧ H1 = H) I ⟨.ref f, hs, rfl, rfl⟩) fun u s1 ⟨v, H1, I1, r1, ev, eH⟩ => ?_)
  subst ev
  rw [eH] at I1
  obtain rfl : u = Value.ref f := r1
  refine PySem.W.callWith_F0 (F.fn _ _ (L.at_ I1)) ?_
  refine wpAny_call (codeAny_mono (F.run X.A X.stack s1 H Q _ hr I1.env0 (L.at_ I1) ht) fun r s' hq => ?_)
  cases r with
  | error e => exact tk e s' (XE.of_call I1 (fun cls d H' h => h) hq)
  | ok fl =>
    cases fl with
    | ret u => exact I1.after hq
    | next => exact False.elim hq
    | brk => exact False.elim hq
    | cont => exact False.elim hq
/-- a def of one parameter, called: its body is told of the very state -/
theorem pe_cS {x a : Str} {st : Stmt} {N : List Str} {R : V → Hp → VK → Prop} {e : Expr} {te : TE} {q pos : Pos} (F : Dfn X.K X.mg x st [a]) (S : FnScope N [a] (defScope st)) (hr : Room (k + 1) X.A) (hg : Gl X x) (ha : PE X e te)
    (hbody : ∀ (g : Addr) (cd : Value) (pins : List (Addr × Obj)) (σ : L2.St) (s : Shared) (H : Hp) (v : V) (Q : VK), Inv X pins σ H s → Room k (X.A.deeper (envOfC x (defScope st) s.heap.objs.size g cd)) → R v H Q →
      ∃ t, PSs (cxOf C8.CX0 X.prog X.w X.K X.mg X.base N x (defScope st) g cd X.A X.stack s H C8.E0).nox (defBody st) t ∧ t { nx := fun _ H' => Q .non H', rt := Q } (L2.start N [v]) H)
    (hdb : (x == ("__debug__" : Str)) = false := by decide) (he : starEach [e] X.env = (false, eval e X.env) :: starEach [] X.env := by rfl) :
    PE X (.Call (.Name x q) [e] [] pos) (fun σ H Q => te σ H fun v H1 => R v H1 Q) := by
  obtain ⟨g, oc, od, kV, doc, pm, an, cd, ct, osl, h1, h2, h3, h4, h5⟩ := F.ex
  refine ⟨fun pins s σ H Q I h => ?_⟩
  refine wpAny_Call_Name_kw (ld_glob I hg h1 ?_ hdb)
  have pa : PA X [e] (tCons te tNil) := pa_cons ha pa_nil he
  have h' : tCons te tNil σ H fun vs H1 => ∃ v, vs = [v] ∧ R v H1 Q := by
    have e : (fun v H1 => R v H1 Q) = fun v H1 => ∃ v', [v] = [v'] ∧ R v' H1 Q := by
      funext v H1
      exact propext ⟨fun z => ⟨v, rfl, z⟩, fun ⟨v', e, z⟩ => by cases e; exact z⟩
    rw [e] at h
    exact h
  refine PySem.W.callWith_K (h₀ := X.base) I.ok.mod.kin h4 (thn (pa.run pos pins s σ H _ I h') fun us s1 ⟨vs, H1, I1, r, v, ev, z⟩ => ⟨I1.kIn, ?_⟩) he (by rfl)
  subst ev
  have hl : us.length = [a].length := by
    rw [← r.length]
    rfl
  have b := h5 s1 us I1.kIn (by rw [List.append_nil]; exact hl)
  rw [List.append_nil] at b
  have rc : codeAny (model X.prog X.w) X.A (.call (.ref g) ⟨us, []⟩) (CR C8.CX0 X.stack X.prog X.w H1 s1 Q C8.E0) s1 := by
    refine LamX.run_ofS (CX := C8.CX0) (E := C8.E0) (vs := [v]) h2 h3 S hr I1.env0 b r rfl fun hr' => ?_
    obtain ⟨t, ht, q⟩ := hbody g cd pins σ s1 H1 v Q I1 hr' z
    exact ⟨t, ht.nox, q⟩
  refine wpAny_call (codeAny_mono rc fun r s' hq => ?_)
  cases r with
  | error e => exact False.elim hq
  | ok fl =>
    cases fl with
    | ret u => exact I1.after hq
    | next => exact False.elim hq
    | brk => exact False.elim hq
    | cont => exact False.elim hq
end
/-! ### _law_why -/
/-- what the function object does: nothing, or an error with the number in o -/
def ActSp (C : Addr) (o : Option Int) (B : Hp) (tl : XK → Hp → VK → Prop) : Prop := ∀ H Q E, Same B H → Wrongs C o B H Q E → tl E H Q
def whyD : Option Int → PyData
  | none => .tuple [.str "told", .none]
  | some k => .tuple [.str "InvalidWay", .int k]
def refD : Option Int → PyData
  | none => .tuple [.str ""]
  | some k => .tuple [.str "InvalidWay", .int k]
section
variable {P : Program} {w : World} {K : PySem.W.Frag} {mg : Str → Option Value} {base : Heap} {C fI CS CM : Addr} {fs : List Addr} {H0 : Hp} {s0 : Shared} {f : Addr} {tl : XK → Hp → VK → Prop} {k : Nat}
theorem sc_law_why : FnScope ["_law_ask", "_law_e"] ["_law_ask"] (defScope s__law_why) := C8.fnScope_by (by decide +kernel)
theorem sc_law_refused : FnScope ["_law_ask", "_law_found"] ["_law_ask"] (defScope s__law_refused) := C8.fnScope_by (by decide +kernel)
def tWhyS (K : PySem.W.Frag) (C : Addr) : Addr → Value → Option Addr → TS := fun a cls d => tRet (tOp (rCatT K) (tTup (tCons (tXf a cls d C "code" (tVar 1)) tNil)) (tCallE (spFld C) a cls d (tCons (tVar 1) tNil)))
def tWhy (K : PySem.W.Frag) (C CS CM f : Addr) (tl : XK → Hp → VK → Prop) : TS := fun D σ H =>
  tRet (tTup (tCons (tC (.str "told")) (tCons (fun σ H Q => σ[0]? = some (some (.ref f)) ∧ tl (fun cls d H' => wAsT K (.ref CS) (.ref CM) 1 (tWhyS K C) D cls d σ H') H Q) tNil))) D σ H
abbrev whyCx (P : Program) (w : World) (K : PySem.W.Frag) (mg : Str → Option Value) (base : Heap) (g : Addr) (cd : Value) (A : Around) (outer : List Env) (s : Shared) (H : Hp) : Cx := (cxOf C8.CX0 P w K mg base ["_law_ask", "_law_e"] "_law_why" (defScope s__law_why) g cd A outer s H C8.E0).nox
theorem why_body {g : Addr} {cd : Value} {A : Around} {outer : List Env} {s : Shared} {H : Hp} (X : Wx K mg C fI CS CM) (cf : FnE P w K mg base 1 "_law_field" (spFld C)) (F : ActOk P w K mg base k fs H0 s0 f tl)
    (L : Lead fs H0 s0 (whyCx P w K mg base g cd A outer s H)) (hr : Room (k + 1) (A.deeper (envOfC "_law_why" (defScope s__law_why) s.heap.objs.size g cd))) :
    PSs (whyCx P w K mg base g cd A outer s H) (defBody s__law_why) (tWhy K C CS CM f tl) := by
  have sc := sc_law_why
  exact pss_one (ps_try_asT (X := whyCx P w K mg base g cd A outer s H) (x1 := "SkyError") (x2 := "Missing") (i := 1) (tb := fun W => tRet (tTup (tCons (tC (.str "told")) (tCons (fun σ H Q => σ[0]? = some (some (.ref f)) ∧ tl (fun cls d H' => W cls d σ H') H Q) tNil)))) (ts := tWhyS K C) rfl rfl sc.nd rfl rfl ⟨rfl, by decide, .inl X.gS⟩ ⟨rfl, by decide, .inl X.gM⟩
    (fun W pn xe tk => pss_one (ps_ret (pe_tup (pa_cons pe_str (pa_cons (pe_actF (X := (whyCx P w K mg base g cd A outer s H).tr pn xe) (i := 0) ⟨L.un, L.fr, L.ex⟩ F tk hr rfl (.inl rfl)) pa_nil)))))
    (fun a oe cls d pn hz hf => pss_one (ps_ret (pe_op op_catT (pe_tup (pa_cons (pe_xfP (p := (a, oe)) List.mem_cons_self X.xf X.nCode hz hf (pv 1)) pa_nil)) (pe_cE (X := (whyCx P w K mg base g cd A outer s H).suite a ((a, oe) :: pn)) cf ⟨(hr.mono (Nat.le_add_left 1 k)).dp, (hr.mono (Nat.le_add_left 1 k)).un⟩ (p := (a, oe)) List.mem_cons_self hz hf rfl (pa_cons (pv 1) pa_nil))))))
theorem why_reads {o : Option Int} {B H : Hp} {Q : VK} {n : L2.St → Hp → Prop} (X : Wx K mg C fI CS CM) (hT : ActSp C o B tl) (s : Same B H) (q : ∀ v B1 H1, Grow B H B1 H1 → Rp B1 v (whyD o) → Q v H1) : tWhy K C CS CM f tl { nx := n, rt := Q } [some (.ref f), none] H := by
  refine ⟨rfl, hT H _ _ s ⟨fun e B1 H1 g => ?_, fun k e B1 H1 dd g hd => ⟨X.exm, fun a ha => ?_⟩⟩⟩
  · subst e
    refine ⟨by show 2 ≤ sizeLine; decide, fun p hp => q _ _ _ (g.trans (Grow.alloc g.sub hp)) (.tup upd_same (.cons (.str _) (.cons .non .nil)))⟩
  · subst e
    have gd := g.trans (Grow.alloc (o := .xd (errW k)) g.sub hd)
    refine ⟨.ref a, rfl, rfl, rfl, dd, errW k, .str "InvalidWay", rfl, upd_same, rfl, by show 1 ≤ sizeLine; decide, fun p hp => ?_⟩
    have gp := gd.trans (Grow.alloc (o := .tup [.str "InvalidWay"]) gd.sub hp)
    refine ⟨.ref a, rfl, k, dd, rfl, rfl, rfl, by rw [upd_ne (ne_of_none upd_same hp), upd_same], fun H2 p2 s2 h2 => ?_⟩
    have g2 := gp.trans (grow_tup gp.sub s2 h2)
    refine ⟨p, p2, [.str "InvalidWay"], [.int k], rfl, rfl, SqT.of (s2 _ _ upd_same), SqT.of h2, (fun z => nomatch z), by show 2 ≤ sizeLine; decide, (fun z => nomatch z), fun _ p3 hp3 => ?_⟩
    exact q _ _ _ (g2.trans (Grow.alloc g2.sub hp3)) (.tup upd_same (.cons (.str _) (.cons (.int _) .nil)))
end
end Sky

set_option Elab.async false
set_option linter.all false
set_option maxRecDepth 100000
set_option maxHeartbeats 4000000
/-! _law_refused; a lambda handed to it. -/
namespace Sky
open PySem PySem.Spec PyProof.Rows L2
section
variable {P : Program} {w : World} {K : PySem.W.Frag} {mg : Str → Option Value} {base : Heap} {C fI CS CM : Addr} {fs : List Addr} {H0 : Hp} {s0 : Shared} {f : Addr} {tl : XK → Hp → VK → Prop} {k : Nat}
abbrev refCx (P : Program) (w : World) (K : PySem.W.Frag) (mg : Str → Option Value) (base : Heap) (g : Addr) (cd : Value) (A : Around) (outer : List Env) (s : Shared) (H : Hp) : Cx := (cxOf C8.CX0 P w K mg base ["_law_ask", "_law_found"] "_law_refused" (defScope s__law_refused) g cd A outer s H C8.E0).nox
abbrev rWhy (K : PySem.W.Frag) (C CS CM f : Addr) (tl : XK → Hp → VK → Prop) : V → Hp → VK → Prop := fun v H Q => v = .ref f ∧ tWhy K C CS CM f tl { nx := fun _ H' => Q .non H', rt := Q } [some (.ref f), none] H
def tRefu (K : PySem.W.Frag) (C CS CM f : Addr) (tl : XK → Hp → VK → Prop) : TS :=
  tSeq (tAsg (fun σ H Q => tVar 0 σ H fun v H1 => rWhy K C CS CM f tl v H1 Q) (gName 1)) (tRet (tIf (tTest (tOp (rEqD K) (tOp (rIxT K) (tVar 1) (tC (.int 0))) (tC (.str "told")))) (tTup (tCons (tC (.str "")) tNil)) (tVar 1)))
theorem refu_body {g : Addr} {cd : Value} {A : Around} {outer : List Env} {s : Shared} {H : Hp} (X : Wx K mg C fI CS CM) (cf : FnE P w K mg base 1 "_law_field" (spFld C)) (Fw : Dfn K mg "_law_why" s__law_why ["_law_ask"]) (F : ActOk P w K mg base k fs H0 s0 f tl)
    (L : Lead fs H0 s0 (refCx P w K mg base g cd A outer s H)) (hr : Room (k + 2) (A.deeper (envOfC "_law_refused" (defScope s__law_refused) s.heap.objs.size g cd))) :
    PSs (refCx P w K mg base g cd A outer s H) (defBody s__law_refused) (tRefu K C CS CM f tl) := by
  have sc := sc_law_refused
  have hw : PE (refCx P w K mg base g cd A outer s H) (.Call (.Name "_law_why" ⟨0, 0, 0, 0⟩) [.Name "_law_ask" ⟨0, 0, 0, 0⟩] [] ⟨0, 0, 0, 0⟩) (fun σ H Q => tVar 0 σ H fun v H1 => rWhy K C CS CM f tl v H1 Q) :=
    pe_cS (X := refCx P w K mg base g cd A outer s H) (R := rWhy K C CS CM f tl) Fw sc_law_why hr rfl (pv 0) fun g2 cd2 pins σ s1 H1 v Q I1 hr' hR => ⟨_, why_body X cf F (L.call I1) hr', by
      obtain ⟨rfl, h⟩ := hR
      exact h⟩
  exact pss_cons (ps_set (i := 1) sc.nd rfl (by first | exact Or.inl rfl | exact Or.inr rfl) (pe_cS (X := refCx P w K mg base g cd A outer s H) (R := rWhy K C CS CM f tl) Fw sc_law_why hr rfl (pv 0) fun g2 cd2 pins σ s1 H1 v Q I1 hr' hR => ⟨_, why_body X cf F (L.call I1) hr', by
      obtain ⟨rfl, h⟩ := hR
      exact h⟩))
    (pss_one (ps_ret (pe_ifExp (pt_cmpR (op_eqD (hud hr)) (pe_ix ix_tup (pv 1) pe_int (fun _ _ => rfl)) pe_str (nomark _)) (pe_tup (pa_cons pe_str pa_nil)) (pv 1))))
theorem sh_str {x : Str} (h : PyData.strOk x = true) : SeqAt.shaped (.str x) = true := (lay_str h).sh (by decide)
theorem refu_reads {o : Option Int} {B H : Hp} {Q : VK} {n : L2.St → Hp → Prop} (X : Wx K mg C fI CS CM) (hT : ActSp C o B tl) (s : Same B H) (q : ∀ v B1 H1, Grow B H B1 H1 → Rp B1 v (refD o) → Q v H1) : tRefu K C CS CM f tl { nx := n, rt := Q } [some (.ref f), none] H := by
  refine ⟨.ref f, rfl, rfl, why_reads X hT s fun v B1 H1 g p => ?_⟩
  cases o with
  | none =>
    have p : Rp B1 v (.tuple [.str "told", .none]) := p
    refine s_ret (I := dt (refD none)) (ev_if (b := true) ((et_test (ev_op (ev_op (ev_var (I := dt (.tuple [.str "told", .none])) p) (ev_int (i := 0)) (rv_ixT rfl)) ev_str (rv_eqD (sh_str (by decide +kernel)) (sh_str (by decide +kernel))))).is (by simp [PyData.eqv])) (fun _ => ev_tup (ds := [.str ""]) (ea1 ev_str) (by show 1 ≤ 100000; decide)) fun e => nomatch e) g.sub fun u B2 H2 g2 p2 => q u B2 H2 (g.trans g2) p2
  | some k =>
    have p : Rp B1 v (.tuple [.str "InvalidWay", .int k]) := p
    refine s_ret (I := dt (refD (some k))) (ev_if (b := false) ((et_test (ev_op (ev_op (ev_var (I := dt (.tuple [.str "InvalidWay", .int k])) p) (ev_int (i := 0)) (rv_ixT rfl)) ev_str (rv_eqD (sh_str (by decide +kernel)) (sh_str (by decide +kernel))))).is (by simp [PyData.eqv]; decide +kernel)) (fun e => nomatch e) fun _ => ev_var (I := dt (.tuple [.str "InvalidWay", .int k])) p) g.sub fun u B2 H2 g2 p2 => q u B2 H2 (g.trans g2) p2
end
/-! ### x(lambda: ..), the lambda handed on within x -/
open LamX in
def tLamF (T : List (Addr × Str)) (q : Str) (TT : Addr → (XK → Hp → VK → Prop) → Hp → VK → Prop) (t : XK → TE) : TE := fun σ H Q => Tabs T H ∧ ∀ H1 f c', ExtN H H1 → Tabs T H1 → H1 c' = some (CodeO c' q) → TT f (fun E H' Q' => H' c' = some (CodeO c' q) ∧ t E σ H' Q') H1 Q
section
open LamX
variable {X : Cx} {k : Nat}
theorem pe_lamF {T : List (Addr × Str)} {TT : Addr → (XK → Hp → VK → Prop) → Hp → VK → Prop} {x a : Str} {st : Stmt} {Ng : List Str} {c P : Addr} {params : Arguments} {body : Expr} {scope : Scope} {t : XK → TE} {p lpos pos : Pos} (Fg : Dfn X.K X.mg x st [a]) (Sg : FnScope Ng [a] (defScope st)) (hg : Gl X x)
    (hG : ∀ (g : Addr) (cd : Value) (f : Addr) (s : Shared) (H : Hp) (Q : VK) (tl : XK → Hp → VK → Prop), ActOk X.prog X.w X.K X.mg X.base k (frs X.stack) H s f tl → Lead (frs X.stack) H s (cxOf C8.CX0 X.prog X.w X.K X.mg X.base Ng x (defScope st) g cd X.A X.stack s H C8.E0).nox → Room (k + 2) (X.A.deeper (envOfC x (defScope st) s.heap.objs.size g cd)) →
      TT f tl H Q → ∃ t, PSs (cxOf C8.CX0 X.prog X.w X.K X.mg X.base Ng x (defScope st) g cd X.A X.stack s H C8.E0).nox (defBody st) t ∧ t { nx := fun _ H' => Q .non H', rt := Q } (L2.start Ng [.ref f]) H)
    (TB : TabB X.base X.mg c P) (hcode : X.env.code = .ref c) (hmT : (P, X.env.qual ++ "<lambda>") ∈ T) (hu : ∀ p ∈ T, p.1 = P → p.2 = X.env.qual ++ "<lambda>") (hr : Room (k + 3) X.A) (L : LamS X.env.scope scope) (hdef : defaultsOf params X.env = ([], []))
    (hbind : ∀ (q : Str) (cl : List (Str × Addr)) (pm cv ctv : Value), bindArgs (PySem.W.kla_fn "<lambda>" q params body scope cl pm cv ctv) ⟨[], []⟩ = pure [])
    (hbody : ∀ (A : Around) (outer : List Env) (s : Shared) (H : Hp) (E : XK) (f c' : Addr), Room k (A.deeper (lamEnv X scope s.heap.objs.size f c')) → PE (lamCx X A outer s H E scope f c') body (t E)) (hdb : (x == ("__debug__" : Str)) = false := by decide) :
    PE X (.Call (.Name x p) [.Lambda params body scope lpos] [] pos) (tLamF T (X.env.qual ++ "<lambda>") TT t) := by
  obtain ⟨g, oc, od, kV, doc, pm, an, cd, ct, osl, h1, h2, h3, h4, h5⟩ := Fg.ex
  refine ⟨fun pins s σ H Q I ⟨hT, h⟩ => ?_⟩
  refine wpAny_Call_Name_kw (ld_glob I hg h1 ?_ hdb)
  refine PySem.W.callWith_K (h₀ := X.base) I.ok.mod.kin h4 ?_ (by rfl) (by rfl)
  show wpAny _ _ (spliced ((false, eval (.Lambda params body scope lpos) X.env) :: backTo pos (starEach [] X.env))) _ _ s
  refine Calls.spliced_cons (lam_make2 I TB hcode hmT hu hT hdef (L.has I.ok) fun f c' pm' ctv H1 s' I1 eN T1 hf hfn hfr hco => ?_)
  refine Calls.spliced_nil ⟨I1.kIn, ?_⟩
  have fnAt : ∀ (HZ : Hp) (sZ : Shared), Un (frs X.stack) [] H1 HZ s'.heap sZ.heap → sZ.heap.get? f = some (PySem.W.kla_obj "<lambda>" (X.env.qual ++ "<lambda>") params body scope (cloFrom X.env.cells scope.names []) pm' c' ctv) := fun HZ sZ un => un.keep f _ hf hfn hfr (by simp)
  have act : ActOk X.prog X.w X.K X.mg X.base k (frs X.stack) H1 s' f (fun E H' Q' => H' c' = some (CodeO c' (X.env.qual ++ "<lambda>")) ∧ t E σ H' Q') := by
    refine ⟨fun HZ sZ un => ⟨_, _, _, _, fnAt HZ sZ un⟩, fun A outer sZ HZ QZ E hrZ e0 un ⟨hcZ, ht⟩ => ?_⟩
    have of1 := fnAt HZ sZ un
    obtain ⟨⟨oc2, vs2, t2, hoc, hdc, hvc⟩, _, _⟩ := (show ObjOk X.prog X.w HZ sZ.heap c' (CodeO c' (X.env.qual ++ "<lambda>")) from e0.hok c' _ hcZ)
    have lim : sZ.heap.NoLimit := e0.mod.nolimit.keeps fun b o e => (e0.bs b o e).1
    refine PySem.W.kla_callFunE hrZ.depth of1 rfl L.co L.gen rfl ⟨c', oc2, vs2, t2, rfl, hoc, hdc, hvc⟩ ?_
    rw [hbind]
    refine wpAny_pure (wpAny_newFunctionEnv (fun y hy => (L.own y hy).2) (fun y hy => absurd hy (by simp)) (fun h₁ hns hsb => ⟨lim.fresh _ hsb, ?_⟩) L.kind)
    show codeAny _ _ (.expr body (lamEnv X scope sZ.heap.objs.size f c')) _ _
    have kp : ∀ b o, sZ.heap.get? b = some o → h₁.get? b = some o := fun b o e => hsb.extBut b o (Nat.ne_of_lt (Heap.lt_size e)) (Heap.get?_push_of_some _ e)
    have J : Inv (lamCx X A outer sZ HZ E scope f c') [] σ HZ { sZ with heap := h₁, toks := sZ.toks + ([] : List (Str × Value)).length } := lam_start2 I1 L e0 hrZ.hd un hns kp
    refine PySem.W.kla_codeExpr (wpAny_mono ((hbody A outer sZ HZ E f c' (hrZ.deeper _)).run [] _ _ HZ QZ J ht) (fun v s2 hq => ?_) fun e s2 hq => hq)
    obtain ⟨w', H', J', rv, q⟩ := hq
    exact ⟨w', H', J'.os, J'.bare, J'.base, J'.hok, rv, q⟩
  have b := h5 s' [.ref f] I1.kIn rfl
  have rc : codeAny (model X.prog X.w) X.A (.call (.ref g) ⟨[.ref f], []⟩) (CR C8.CX0 X.stack X.prog X.w H1 s' Q C8.E0) s' := by
    refine run_ofS (CX := C8.CX0) (E := C8.E0) (N := Ng) (ps := [a]) (us := [.ref f]) (vs := [.ref f]) (k := k + 2) h2 h3 Sg hr I1.env0 b (.cons rfl .nil) rfl fun hr' => ?_
    obtain ⟨t', ht', hq'⟩ := hG g cd f s' H1 Q _ act ⟨Un.refl, fun b hb hn => absurd hb hn, rfl⟩ hr' (h H1 f c' eN T1 hco)
    exact ⟨t', ht'.nox, hq'⟩
  refine wpAny_call (codeAny_mono rc fun r s2 hq => ?_)
  cases r with
  | error e => exact (show False from hq).elim
  | ok fl =>
    cases fl with
    | ret u => exact I1.after hq
    | next => exact False.elim hq
    | brk => exact False.elim hq
    | cont => exact False.elim hq
end
end Sky

set_option Elab.async false
set_option linter.all false
set_option maxRecDepth 100000
set_option maxHeartbeats 4000000
/-! Bases without tables; a def whose code object is told. -/
namespace Sky
open PySem PySem.Spec PyProof.Rows L2
open LamX (Tabs TabS ExtN CodeO TabB)
def NoTbl (B : Hp) : Prop := ∀ b ps, B b ≠ some (.tbl ps)
/-- the base without the tables -/
def dropT (B : Hp) : Hp := fun b => match B b with
  | some (.tbl _) => none
  | o => o
section
variable {A B H H1 : Hp} {b : Addr} {o : HO} {v : V} {W : Wd} {t : Tr}
theorem dropT_of (h : B b = some o) (n : ∀ ps, o ≠ .tbl ps) : dropT B b = some o := by
  unfold dropT
  rw [h]
  cases o with
  | tbl ps => exact absurd rfl (n ps)
  | _ => rfl
theorem dropT_sub : Same (dropT B) B := fun b o e => by
  unfold dropT at e
  cases h : B b with
  | none =>
    rw [h] at e
    cases e
  | some u =>
    rw [h] at e
    cases u with
    | tbl ps => cases e
    | _ => exact e
theorem dropT_no : NoTbl (dropT B) := fun b ps e => by
  have h := dropT_sub b _ e
  unfold dropT at e
  rw [h] at e
  cases e
theorem sd_drop : Sd B (dropT B) := ⟨fun b xs e => dropT_of e fun _ h => (by cases h), fun b xs e => dropT_of e fun _ h => (by cases h)⟩
theorem same_drop (n : NoTbl A) (s : Same A B) : Same A (dropT B) := fun b o e => dropT_of (s b o e) fun ps h => n b ps (by rw [← h]; exact e)
theorem ext_drop (n : NoTbl B) (s : Same B H) (x : ExtN H H1) : Same B H1 := fun b o e => x b o (s b o e) fun ps h => n b ps (by rw [← h]; exact e)
theorem chI_drop {s : Sea} (h : (chI W s).P v B) : (chI W s).P v (dropT B) := by
  obtain ⟨a, dx, vt, v1, v2, dd, kvs, e, h1, h2, h3⟩ := h
  exact ⟨a, dx, vt, v1, v2, dd, kvs, e, dropT_of h1 (fun _ h => by cases h), dropT_of h2 (fun _ h => by cases h), h3⟩
theorem trI_drop (h : (trI W t).P v B) : (trI W t).P v (dropT B) := by
  obtain ⟨x, dx, c, st, gl, e, ⟨f1, f2, f3⟩, q⟩ := h
  refine ⟨x, dx, c, st, gl, e, ⟨chI_drop f1, Rp.mono sd_drop f2, Rp.mono sd_drop f3⟩, ?_⟩
  rcases q with ⟨a, b⟩ | ⟨ps, dd, kvs, a, b, d, g⟩
  · exact .inl ⟨a, dropT_of b fun _ h => by cases h⟩
  · exact .inr ⟨ps, dd, kvs, a, dropT_of b (fun _ h => by cases h), dropT_of d (fun _ h => by cases h), g⟩
theorem bagO_tbl {b p : Addr} (ps : Array Value) : BagO b p ≠ .tbl ps := fun z => by
  unfold BagO at z
  cases z
theorem bagI_drop (h : bagI.P v B) : bagI.P v (dropT B) := by
  obtain ⟨b, p, ns, e, h1, h2⟩ := h
  exact ⟨b, p, ns, e, dropT_of h1 bagO_tbl, dropT_of h2 fun _ h => by cases h⟩
theorem rp_drop {d : PyData} (h : Rp B v d) : Rp (dropT B) v d := Rp.mono sd_drop h
end
/-! ### a def whose code object is told -/
structure DfnC (K : PySem.W.Frag) (mg : Str → Option Value) (x : Str) (st : Stmt) (ps : List Str) (c : Addr) : Prop where
  ex : ∃ (f : Addr) (oc : Value) (od : Option Addr) (kV doc pm : Value) (an : Option Addr) (ct : Value) (osl : Array (Option Value)),
    mg x = some (.ref f) ∧ K.lookup f = some ⟨oc, od, .func (PySem.W.fnOf x x (defArgs st) (defBody st) (defScope st) .none kV doc pm an (.ref c) ct), osl⟩ ∧ PySem.W.codeIn K (.ref c) x = true ∧ PySem.W.keepIn K (.ref f) = true ∧
    Binds K (PySem.W.fnOf x x (defArgs st) (defBody st) (defScope st) .none kV doc pm an (.ref c) ct) ps []
section
variable {P : Program} {w : World} {K : PySem.W.Frag} {mg : Str → Option Value} {base : Heap}
theorem DfnC.cal {x : Str} {st : Stmt} {ps N : List Str} {k : Nat} {sp : Sp} {c : Addr} (F : DfnC K mg x st ps c) (S : FnScope N ps (defScope st)) (len : ∀ vs H Q E, sp vs H Q E → vs.length = ps.length)
    (hbody : ∀ (f : Addr) (cdv : Value) (A : Around) (outer : List Env) (s : Shared) (H : Hp) (vs : List V) (Q : VK) (E : XK), Room k (A.deeper (envOfC x (defScope st) s.heap.objs.size f cdv)) → cdv = .ref c ∧ sp vs H Q E →
      ∃ t, PSs (bodyCx P w K mg base N x st f cdv A outer s H E) (defBody st) t ∧ t { nx := fun _ H' => Q .non H', rt := Q } (start N vs) H) : C8.Cal P w K mg base (k + 1) x sp [] := by
  obtain ⟨f, oc, od, kV, doc, pm, an, ct, osl, h1, h2, h3, h4, h5⟩ := F.ex
  refine ⟨f, _, ps, [], fn_of h2 h3 S len fun A outer s H vs Q E hr hsp => ?_, h1, h4, h5, .nil⟩
  obtain ⟨t, h, q⟩ := hbody f (.ref c) A outer s H vs Q E hr ⟨rfl, hsp⟩
  exact ⟨t, h.nox, q⟩
end
section
variable {K : PySem.W.Frag} {σ : L2.St} {B : Hp} {te : TE} {d : PyData} {xs : List PyData}
theorem rc_listS (hs : seqOf d = some xs) : RcI (rLs K) [dt d] (dt (.list xs)) := by
  rcases seqOf_is hs with rfl | rfl
  · exact rc_list
  · exact rc_listT
end
theorem Wrongs.mono {C : Addr} {o : Option Int} {B H B1 H1 : Hp} {Q : VK} {E : XK} (g : Grow B H B1 H1) (h : Wrongs C o B H Q E) : Wrongs C o B1 H1 Q E := ⟨fun e B2 H2 g2 => h.1 e B2 H2 (g.trans g2), fun k e B2 H2 dd g2 hd => h.2 k e B2 H2 dd (g.trans g2) hd⟩
theorem sm_ref (o : Option Int) : SmD 4 (refD o) := by
  cases o with
  | none => exact ⟨by show 1 ≤ 1000; decide, fun x hx => by rw [List.mem_singleton.mp hx]; exact (by decide +kernel : PyData.strOk "" = true)⟩
  | some k => exact ⟨by show 2 ≤ 1000; decide, fun x hx => by
      rcases List.mem_cons.mp hx with rfl | hx
      · exact (by decide +kernel : PyData.strOk "InvalidWay" = true)
      · rw [List.mem_singleton.mp hx]
        trivial⟩
end Sky

set_option Elab.async false
set_option linter.all false
set_option maxRecDepth 100000
set_option maxHeartbeats 4000000
/-! _law_judged_so. -/
namespace Sky
open PySem PySem.Spec PyProof.Rows L2
open LamX (Tabs TabS ExtN CodeO TabB)
section
variable {P : Program} {w : World} {K : PySem.W.Frag} {mg : Str → Option Value} {base : Heap} {W : Wd} {C fI CS CM cA pA : Addr}
def qL : Str := (("_law_judged_so" : Str) ++ ".<locals>.") ++ "<lambda>"
def spJudged (W : Wd) (T : List (Addr × Str)) : Sp := fun vs H Q _ => ∃ (t : Tr) (tw : List Place) (B : Hp), wet t.s ∧ TrOk t ∧ (0 < tw.length ∧ tw.length ≤ 4) ∧ NoTbl B ∧ Same B H ∧ Tabs T H ∧
  ItA B vs [bagI, dt (dSea t.s), trI W t, anyI, dt (dTs (allW t)), dt (dPs tw)] ∧ ∀ H1, Same B H1 → Tabs T H1 → Q (.bl true) H1
abbrev tAsk (W : Wd) (C : Addr) (E : XK) : TE := tCall (spCheck W C) [] E (tCons (tCall (spSheet W) [] C8.E0 (tCons (tVar 1) tNil)) (tCons (tVar 6) tNil))
theorem ask_reads {s : Sea} {d : PyData} {σ : L2.St} {B : Hp} {c' : Addr} {q : Str} {v1 v6 : V} (hw : wet s) (late : LateOk d) (e1 : σ[1]? = some (some v1)) (e6 : σ[6]? = some (some v6)) (h1 : Rp B v1 (dSea s)) (h6 : Rp B v6 d) (hc : B c' = some (CodeO c' q)) :
    ActSp C (wrongV s d) B (fun E H' Q' => H' c' = some (CodeO c' q) ∧ tAsk W C E σ H' Q') := fun H Q E sm wr => by
  refine ⟨sm _ _ hc, ?_⟩
  have ea : EvA (tCons (tCall (spSheet W) [] C8.E0 (tCons (tVar 1) tNil)) (tCons (tVar 6) tNil)) σ B [chI W s, dt d] := ea_cons (ev_call s (ea1 (ev_var (I := dt (dSea s)) h1 e1)) hw) (ea1 (ev_var (I := dt d) h6 e6))
  refine ea H sm _ fun vs B2 H2 g2 p2 => ?_
  rw [List.append_nil]
  exact ⟨s, d, B2, hw.1, late, g2.sub, p2, wr.mono g2⟩
theorem sc_law_judged_so : FnScope ["_law_bag_here", "_law_sea_here", "_law_cruise_here", "_law_tour_here", "_law_tracks_here", "_law_track", "_law_late", "_law_spoilt", "_law_due", "_law_found"] ["_law_bag_here", "_law_sea_here", "_law_cruise_here", "_law_tour_here", "_law_tracks_here", "_law_track"] (defScope s__law_judged_so) := C8.fnScope_by (by decide +kernel)
theorem ok_law_judged_so (T : Bt mg) (Z : Kc K mg W) (X : Wx K mg C fI CS CM) (TB : TabB base mg cA pA) (cf : FnE P w K mg base 1 "_law_field" (spFld C)) (Fw : Dfn K mg "_law_why" s__law_why ["_law_ask"]) (Fr : Dfn K mg "_law_refused" s__law_refused ["_law_ask"]) (ccheck : CalX P w K mg base 5 "check_way" (spCheck W C)) (c_law_sheet : C8.Cal P w K mg base 6 "_law_sheet" (spSheet W) []) (c_law_bent_track : C8.Cal P w K mg base 3 "_law_bent_track" spBent []) (c_law_wrong_at : C8.Cal P w K mg base 3 "_law_wrong_at" spWrong []) (c_law_same : C8.Cal P w K mg base 4 "_law_same" (spSame 4) []) (cis_way : C8.Cal P w K mg base 7 "is_way" (spIsWay W) []) (F : DfnC K mg "_law_judged_so" s__law_judged_so ["_law_bag_here", "_law_sea_here", "_law_cruise_here", "_law_tour_here", "_law_tracks_here", "_law_track"] cA) : C8.Cal P w K mg base 10 "_law_judged_so" (spJudged W [(pA, qL)]) [] := by
  have sc := sc_law_judged_so
  refine F.cal sc (fun vs H Q E ⟨t, tw, B, _, _, _, _, _, _, h, _⟩ => by rw [h.length]; rfl) fun f cdv A outer s H vs Q E hr hsp => ?_
  refine ⟨_, (pss_cons (ps_set (i := 6) sc.nd rfl (by first | exact Or.inl rfl | exact Or.inr rfl) (C8.pe_c c_law_bent_track hr (by decide) (by rfl) (pa_cons (pv 0) (pa_cons (pv 1) (pa_cons (pv 5) pa_nil)))))
    (pss_cons (ps_set (i := 7) sc.nd rfl (by first | exact Or.inl rfl | exact Or.inr rfl) (C8.pe_c c_law_wrong_at hr (by decide) (by rfl) (pa_cons (pv 1) (pa_cons (pv 6) pa_nil))))
    (pss_cons (ps_set (i := 8) sc.nd rfl (by first | exact Or.inl rfl | exact Or.inr rfl) (pe_and (pe_cmpR op_isN (pv 7) pe_non (nomark _)) (pe_one (pe_cmpR (op_inD (hui hr)) (pe_callTy call_list_of (by rfl) T.n_list bb_list (pa_cons (pv 6) pa_nil)) (pv 4) (by rfl)))))
    (pss_cons (ps_set (i := 9) sc.nd rfl (by first | exact Or.inl rfl | exact Or.inr rfl) (pe_lamF (k := 6) (T := [(pA, qL)]) (TT := fun f tl H Q => tRefu K C CS CM f tl { nx := fun _ H' => Q .non H', rt := Q } [some (.ref f), none] H) Fr sc_law_refused (by rfl) (fun g cd f s H Q tl act L hr h => ⟨_, refu_body X cf Fw act L hr, h⟩) TB hsp.1 (List.mem_singleton.mpr rfl) (fun p hp _ => by rw [List.mem_singleton.mp hp]; rfl) hr (show LamX.LamS (defScope s__law_judged_so) _ from LamX.lamS_by (by decide +kernel)) rfl (fun _ _ _ _ _ => rfl) (fun A outer s H E f c' hr => pe_cX ccheck hr (by decide) (by rfl) (passes_call (takes_of rfl rfl rfl rfl) fun _ _ _ _ h => h) (pa_cons (C8.pe_c c_law_sheet hr (by decide) (by rfl) (pa_cons (pv 1) pa_nil)) (pa_cons (pv 6) pa_nil)))))
    (pss_cons (ps_if (pt_not (pt_val (C8.pe_c c_law_same hr (by decide) (by rfl) (pa_cons (pv 9) (pa_cons (pe_ifExp (pt_cmpR op_isN (pv 7) pe_non (nomark _)) (pe_tup (pa_cons pe_str pa_nil)) (pe_tup (pa_cons pe_str (pa_cons (pv 7) pa_nil)))) pa_nil))))) (pss_one (ps_ret pe_bl)) pss_nil)
    (pss_one (ps_ret (C8.pe_c c_law_same hr (by decide) (by rfl) (pa_cons (C8.pe_c cis_way hr (by decide) (by rfl) (pa_cons (pv 2) (pa_cons (pv 6) pa_nil))) (pa_cons (pv 8) pa_nil)))))))))), ?_⟩
  obtain ⟨hcd, t, tw, B, hw, ok, htw, nt, s0, tb, ha, q⟩ := hsp
  obtain ⟨v1, v2, v3, v4, v5, v6, rfl, h1, h2, h3, h4, h5, h6⟩ := ita6 ha
  refine s_set (I := lateI) (ev_call (t.s, tw) (ea_cons (ev_var h1) (ea_cons (ev_var h2) (ea1 (ev_var h6)))) ⟨hw, htw⟩) s0 fun vl B1 H1 g1 ⟨d, late, hl⟩ => ?_
  have hl : Rp B1 vl d := hl
  have h2 : Rp B1 v2 (dSea t.s) := Rp.mono (Sd.of g1.base) h2
  refine s_set (I := dt (dO (wrongV t.s d))) (ev_call (t.s, d) (ea_cons (ev_var (I := dt (dSea t.s)) h2) (ea1 (ev_var (I := dt d) hl))) ⟨hw.1, late⟩) g1.sub fun vw B2 H2 g2 hv => ?_
  have g12 := g1.trans g2
  have h2 : Rp B2 v2 (dSea t.s) := Rp.mono (Sd.of g2.base) h2
  have hl : Rp B2 vl d := Rp.mono (Sd.of g2.base) hl
  have hv : Rp B2 vw (dO (wrongV t.s d)) := hv
  have h5 : Rp B2 v5 (.list ((allW t).map dPs)) := Rp.mono (Sd.of g12.base) h5
  have hdue : EvD (tAndV (tOp (fun x y H Q => y = .non ∧ Q (.bl (decide (x = .non))) H) (tVar 7) (tC .non)) (tOp (rInD K) (tCB (rLs K) (tCons (tVar 6) tNil)) (tVar 4))) [some v1, some v2, some v3, some v4, some v5, some v6, some vl, some vw, none, none] B2 (.bool (isWayB t d)) := by
    cases hwr : wrongV t.s d with
    | none =>
      obtain ⟨ps, hs, _, _, _⟩ := wrong_none.mp hwr
      rw [hwr] at hv
      have e := isWay_right ok hs
      refine (ev_and (b := true) (c := decide (ps ∈ allW t)) ((ev_isN (ev_var (I := dt .none) hv)).is rfl) fun _ => (ev_op (ev_cb (ea1 (ev_var (I := dt d) hl)) (rc_listS hs)) (ev_var (I := dt (.list ((allW t).map dPs))) h5) (rv_inD (sh_dPs ps) (sh_dTs _))).is ?_).is ?_
      · rw [show PyData.list (ps.map dP) = dPs ps from rfl, any_dPs]
      · rw [e]
        rfl
    | some k =>
      rw [hwr] at hv
      have e := isWay_wrong ok (d := d) (by rw [hwr]; exact fun h => nomatch h)
      exact (ev_and (b := false) (c := false) ((ev_isN (ev_var (I := dt (.int k)) hv)).is rfl) fun h => nomatch h).is (by rw [e]; rfl)
  refine s_set hdue g2.sub fun vd B3 H3 g3 hd => ?_
  have g13 := g12.trans g3
  have tb3 : Tabs [(pA, qL)] H3 := tb.ext fun b o e => g13.top b o e
  refine ⟨tb3, fun H4 f c' eN tb4 hc => ?_⟩
  -- the base behind the lambda
  have s4' : Same (dropT B3) H4 := ext_drop dropT_no (dropT_sub.trans g13.sub) eN
  have nB : Same B (dropT B3) := same_drop nt g13.base
  have hcd' : ∀ o, dropT B3 c' = some o → o = CodeO c' qL := fun o e => by
    have := s4' c' o e
    rw [show H4 c' = some (CodeO c' qL) from hc] at this
    exact (Option.some.inj this).symm
  have sB : Same (dropT B3) (upd (dropT B3) c' (CodeO c' qL)) := fun b o e => by
    by_cases hb : b = c'
    · subst hb
      rw [upd_same, hcd' o e]
    · rw [upd_ne hb]
      exact e
  have s4 : Same (upd (dropT B3) c' (CodeO c' qL)) H4 := fun b o e => by
    by_cases hb : b = c'
    · subst hb
      rw [upd_same] at e
      cases e
      exact hc
    · rw [upd_ne hb] at e
      exact s4' b o e
  have h2 : Rp (upd (dropT B3) c' (CodeO c' qL)) v2 (dSea t.s) := Rp.mono (Sd.of sB) (rp_drop (Rp.mono (Sd.of g3.base) h2))
  have hl : Rp (upd (dropT B3) c' (CodeO c' qL)) vl d := Rp.mono (Sd.of sB) (rp_drop (Rp.mono (Sd.of g3.base) hl))
  have hv : Rp (upd (dropT B3) c' (CodeO c' qL)) vw (dO (wrongV t.s d)) := Rp.mono (Sd.of sB) (rp_drop (Rp.mono (Sd.of g3.base) hv))
  have hd : Rp (upd (dropT B3) c' (CodeO c' qL)) vd (.bool (isWayB t d)) := Rp.mono (Sd.of sB) (rp_drop hd)
  have h3 : (trI W t).P v3 (upd (dropT B3) c' (CodeO c' qL)) := (trI W t).mono sB (trI_drop ((trI W t).mono g13.base h3))
  refine refu_reads X (ask_reads hw late (by rfl) (by rfl) h2 hl upd_same) s4 fun vf B5 H5 g5 hf => ?_
  have hf : Rp B5 vf (refD (wrongV t.s d)) := hf
  have hv : Rp B5 vw (dO (wrongV t.s d)) := Rp.mono (Sd.of g5.base) hv
  have fin : ∀ H6, Same H5 H6 → Same B H6 ∧ Tabs [(pA, qL)] H6 := fun H6 s => ⟨(nB.trans (sB.trans s4)).trans (g5.top.trans s), tb4.ext fun b o e => s b o (g5.top b o e)⟩
  have hdueF : EvD (tIf (tTest (tOp (fun x y H Q => y = .non ∧ Q (.bl (decide (x = .non))) H) (tVar 7) (tC .non))) (tTup (tCons (tC (.str "")) tNil)) (tTup (tCons (tC (.str "InvalidWay")) (tCons (tVar 7) tNil)))) [some v1, some v2, some v3, some v4, some v5, some v6, some vl, some vw, some vd, some vf] B5 (refD (wrongV t.s d)) := by
    cases hwr : wrongV t.s d with
    | none =>
      rw [hwr] at hv
      exact ev_if (b := true) ((et_test (ev_isN (ev_var (I := dt .none) hv))).is rfl) (fun _ => ev_tup (ds := [.str ""]) (ea1 ev_str) (by show 1 ≤ 100000; decide)) fun h => nomatch h
    | some k =>
      rw [hwr] at hv
      exact ev_if (b := false) ((et_test (ev_isN (ev_var (I := dt (.int k)) hv))).is rfl) (fun h => nomatch h) fun _ => ev_tup (ds := [.str "InvalidWay", .int k]) (ea_cons ev_str (ea1 (ev_var (I := dt (.int k)) hv))) (by show 2 ≤ 100000; decide)
  have hsame : EvD (tCall (spSame 4) [] C8.E0 (tCons (tVar 9) (tCons (tIf (tTest (tOp (fun x y H Q => y = .non ∧ Q (.bl (decide (x = .non))) H) (tVar 7) (tC .non))) (tTup (tCons (tC (.str "")) tNil)) (tTup (tCons (tC (.str "InvalidWay")) (tCons (tVar 7) tNil)))) tNil))) [some v1, some v2, some v3, some v4, some v5, some v6, some vl, some vw, some vd, some vf] B5 (.bool true) := ev_call (refD (wrongV t.s d)) (ea_cons (ev_var (I := dt (refD (wrongV t.s d))) hf) (ea1 hdueF)) (sm_ref _)
  refine s_ifN ((et_not (b := true) (et_B hsame)).is rfl) g5.sub fun B6 H6 g6 => ?_
  have g56 := g5.trans g6
  have hway : EvD (tCall (spIsWay W) [] C8.E0 (tCons (tVar 2) (tCons (tVar 6) tNil))) [some v1, some v2, some v3, some v4, some v5, some v6, some vl, some vw, some vd, some vf] B6 (.bool (isWayB t d)) := ev_call (t, d) (ea_cons (ev_var ((trI W t).mono g56.base h3)) (ea1 (ev_var (I := dt d) (Rp.mono (Sd.of g56.base) hl)))) ⟨ok, fun xs e => Nat.le_trans (late.seq e).1 (by decide)⟩
  have hlast : EvD (tCall (spSame 4) [] C8.E0 (tCons (tCall (spIsWay W) [] C8.E0 (tCons (tVar 2) (tCons (tVar 6) tNil))) (tCons (tVar 8) tNil))) [some v1, some v2, some v3, some v4, some v5, some v6, some vl, some vw, some vd, some vf] B6 (.bool true) := ev_call (PyData.bool (isWayB t d)) (ea_cons hway (ea1 (ev_var (I := dt (.bool (isWayB t d))) (Rp.mono (Sd.of g56.base) hd)))) (show SmD 4 (.bool _) from trivial)
  refine s_ret hlast g6.sub fun v B7 H7 g7 p7 => ?_
  obtain rfl := Rp.bl_eq p7
  obtain ⟨z1, z2⟩ := fin H7 (g6.top.trans g7.top)
  exact q H7 z1 z2
end
end Sky

set_option Elab.async false
set_option linter.all false
set_option maxRecDepth 100000
set_option maxHeartbeats 4000000
/-! Loops whose base is fixed; lists that are written while tables stand. -/
namespace Sky
open PySem PySem.Spec PyProof.Rows L2
open LamX (Tabs TabS ExtN CodeO TabB)
theorem s_rng1 {m sl : Nat} {j : Int} {tb : TS} {D : Ends} {σ : L2.St} {H : Hp} (hm : m < 1000000) (Iv : Nat → L2.St → Hp → Prop) (h0 : Iv 0 σ H)
    (step : ∀ i σ H, i < m → Iv i σ H → tb { D with nx := Iv (i + 1), ct := Iv (i + 1), bk := D.nx } (σ.set sl (some (.int (i : Nat)))) H) (done : ∀ σ H, Iv m σ H → D.nx σ H) (hj : j = (m : Nat) := by rfl) :
    tFor (iRng1 (tCons (tC (.int j)) tNil)) (gName sl) tb D σ H := by
  subst hj
  refine ⟨(m : Nat), rfl, by omega, by omega, fun i k σ H => k = m - i ∧ i ≤ m ∧ Iv i σ H, ⟨m, by simp, Nat.zero_le _, h0⟩, ?_⟩
  rintro i k σ H ⟨rfl, hi, p⟩
  by_cases hlt : i < m
  · refine .inr ⟨show i < ((m : Nat) : Int).toNat by omega, Iv (i + 1), fun σ' H' z => ⟨m - (i + 1), by omega, rfl, hlt, z⟩, fun x H' y => ?_⟩
    obtain ⟨e1, e2⟩ := y
    subst e1 e2
    have e : ((0 : Int) + (i : Nat)) = (i : Nat) := by omega
    have := step i σ H' hlt p
    rw [← e] at this
    exact this
  · have e : i = m := by omega
    subst e
    exact .inl ⟨show ((i : Nat) : Int).toNat ≤ i by omega, done σ H p⟩
theorem s_rng {m sl : Nat} {j : Int} {tb tu : TS} {D : Ends} {σ : L2.St} {H : Hp} (hm : m < 1000000) (Iv : Nat → L2.St → Hp → Prop) (h0 : Iv 0 σ H)
    (step : ∀ i σ H, i < m → Iv i σ H → tb { D with nx := Iv (i + 1), ct := Iv (i + 1), bk := tu D } (σ.set sl (some (.int (i : Nat)))) H) (done : ∀ σ H, Iv m σ H → tu D σ H) (hj : j = (m : Nat) := by rfl) :
    tSeq (tFor (iRng1 (tCons (tC (.int j)) tNil)) (gName sl) tb) tu D σ H := s_rng1 (D := { D with nx := tu D }) hm Iv h0 step done hj
theorem codeO_lst {c : Addr} {q : Str} (xs : List V) : CodeO c q ≠ .lst xs := fun z => by
  unfold CodeO at z
  cases z
theorem tabs_upd {T : List (Addr × Str)} {H : Hp} {a : Addr} {xs : List V} {o : HO} (t : Tabs T H) (h : H a = some (.lst xs)) : Tabs T (upd H a o) := fun p hp => by
  obtain ⟨ps, h1, h2, h3⟩ := t p hp
  refine ⟨ps, ?_, h2, fun pos cv hc => ?_⟩
  · rw [upd_ne fun z => ?_]
    · exact h1
    · rw [z, h] at h1
      cases h1
  · obtain ⟨c, e1, e2⟩ := h3 pos cv hc
    refine ⟨c, e1, ?_⟩
    rw [upd_ne fun z => ?_]
    · exact e2
    · subst z
      rw [h] at e2
      exact codeO_lst xs (Option.some.inj e2).symm
section
variable {X : Cx} {k : Nat} {x : Str} {sp : SpZ} {p pos : Pos} {e : Expr} {es : List Expr} {t : TA}
theorem pz_c (c : ZCal X.prog X.w X.K X.mg X.base k x sp) (hr : Room k X.A) (hg : Gl X x) (ha : PA X (e :: es) t) (hdb : (x == ("__debug__" : Str)) = false := by decide)
    (he : starEach (e :: es) X.env = (false, eval e X.env) :: starEach es X.env := by rfl) (hpl : (backTo pos (starEach es X.env)).any (·.1) = false := by rfl) : PZ X k (.Call (.Name x p) (e :: es) [] pos) (tCallZ sp t) := by
  obtain ⟨f, fd, ps, F, hm, kp, b⟩ := c.ex
  exact pz_call F hr hg hm kp b ha hdb he hpl
end
/-- all of these are told: not p, not known to B, lists of at most n -/
def Told (B : Hp) (p : Addr) (n : Nat) (ys : List V) (H : Hp) : Prop := ∀ y ∈ ys, ∃ a xs, y = V.ref a ∧ a ≠ p ∧ B a = none ∧ H a = some (.lst xs) ∧ xs.length ≤ n
theorem told_upd {B H : Hp} {p a : Addr} {n : Nat} {ys xs : List V} (t : Told B p n ys H) (h : H a = some (.lst xs)) (l : xs.length ≤ n) : Told B p (n + 1) ys (upd H a (.lst (xs ++ [.non]))) := fun y hy => by
  obtain ⟨b, zs, e, h1, h2, h3, h4⟩ := t y hy
  by_cases hb : b = a
  · subst hb
    exact ⟨b, _, e, h1, h2, upd_same, by rw [List.length_append, List.length_singleton]; omega⟩
  · exact ⟨b, zs, e, h1, h2, by rw [upd_ne hb]; exact h3, by omega⟩
/-- for y in told: y.append(None) -/
theorem s_app {K : PySem.W.Frag} {B : Hp} {T : List (Addr × Str)} {p : Addr} {ys : List V} {i j : Nat} {D : Ends} {σ : L2.St} {H : Hp} (hl : ys.length ≤ 1000) (Sh : L2.St → Prop) (hi : ∀ σ, Sh σ → σ[i]? = some (some (.ref p))) (hj : ∀ σ v, Sh σ → Sh (σ.set j (some v)) ∧ (σ.set j (some v))[j]? = some (some v))
    (sh : Sh σ) (s : Same B H) (hB : B p = none) (hp : H p = some (.lst ys)) (t : Told B p 4 ys H) (tb : Tabs T H) (k : ∀ σ H, Sh σ → Same B H → Tabs T H → D.nx σ H) :
    tFor (iList K (tVar i)) (gName j) (tDrop (tBM K "list" rAppend (tVar j) (tCons (tC .non) tNil))) D σ H := by
  refine ⟨.ref p, hi σ sh, p, rfl, ⟨ys, SqL.of hp⟩, for_list (K := K) (a := p) (xs := ys) (fun n σ H => Sh σ ∧ Same B H ∧ H p = some (.lst ys) ∧ Told B p (4 + n) ys H ∧ Tabs T H) ⟨sh, s, hp, t, tb⟩ (fun n σ H _ z => SqL.of z.2.2.1) ?_ ?_⟩
  · rintro n y σ H hn ⟨sh, s, hp, t, tb⟩
    obtain ⟨l, e⟩ := List.getElem?_eq_some_iff.mp hn
    obtain ⟨a, xs, rfl, h1, h2, h3, h4⟩ := t y (by rw [← e]; exact List.getElem_mem l)
    obtain ⟨sh', hv⟩ := hj σ (.ref a) sh
    refine ⟨.ref a, hv, .inl ⟨rfl, _, SqL.of h3⟩, a, xs, .non, rfl, rfl, h3, Nat.lt_of_le_of_lt (by omega : xs.length ≤ 2000) (by decide), sh', Same.put s h2, by rw [upd_ne (Ne.symm h1)]; exact hp, told_upd t h3 h4, tabs_upd tb h3⟩
  · rintro σ H ⟨sh, s, hp, t, tb⟩
    exact k σ H sh s tb
theorem rpa_lists {B : Hp} : ∀ {ys : List V} {ws : List (List Place)}, RpA B ys (ws.map dPs) → ∀ y ∈ ys, ∃ a xs w, y = V.ref a ∧ B a = some (.lst xs) ∧ w ∈ ws ∧ xs.length = w.length
  | [], _, _, y, hy => nomatch hy
  | v :: ys, [], r, y, hy => nomatch r
  | v :: ys, w :: ws, .cons r t, y, hy => by
    rcases List.mem_cons.mp hy with e | hy
    · subst e
      obtain ⟨a, xs, e1, e2, e3⟩ := Rp.lst_eq r
      exact ⟨a, xs, w, e1, e2, List.mem_cons_self .., by rw [e3.length, List.length_map]⟩
    · obtain ⟨a, xs, u, e1, e2, e3, e4⟩ := rpa_lists t y hy
      exact ⟨a, xs, u, e1, e2, List.mem_cons_of_mem _ e3, e4⟩
theorem sm_dP (p : Place) : SmD 2 (dP p) := ⟨by show 3 ≤ 1000; decide, fun x hx => by
  simp only [List.mem_cons, List.not_mem_nil, or_false] at hx
  rcases hx with rfl | rfl | rfl <;> trivial⟩
theorem sm_tracks {t : Tr} (ok : TrOk t) : SmD 4 (dTs (allW t)) := by
  refine ⟨by rw [List.length_map]; exact Nat.le_trans (allW_len ok) (by decide), fun x hx => ?_⟩
  obtain ⟨w, hw, rfl⟩ := List.mem_map.mp hx
  refine ⟨by rw [List.length_map]; exact Nat.le_trans (all_chain ok hw).2.1 (by decide), fun y hy => ?_⟩
  obtain ⟨p, _, rfl⟩ := List.mem_map.mp hy
  exact sm_dP p
theorem s_told {W : Wd} {t : Tr} {i j : Nat} {tu : TS} {D : Ends} {σ : L2.St} {B H : Hp} (h : Ev (tVar i) σ B (trI W t)) (ok : TrOk t) (s : Same B H)
    (k : ∀ ys B1 H1 p, Grow B H B1 H1 → RpA B1 ys ((allW t).map dPs) → (∀ y ∈ ys, ∃ a, y = V.ref a ∧ H a = none) → H1 p = none → tu D (σ.set j (some (.ref p))) (upd H1 p (.lst ys))) :
    tSeq (tAsg (tLcZ (tCallZ (spWays W) (tCons (tVar i) tNil))) (gName j)) tu D σ H := by
  show tCons (tVar i) tNil σ H fun vs H1 => spWays W vs H1 fun out H2 => ∀ p, H2 p = none → tu D (σ.set j (some (.ref p))) (upd H2 p (.lst out))
  refine (ea1 h) H s _ fun zs B7 H7 g7 pz => ⟨t, B7, ok, g7.sub, pz, fun ys B8 H8 g8 ry fr p hp => k ys B8 H8 p (g7.trans g8) ry (fun y hy => ?_) hp⟩
  obtain ⟨a, e, h⟩ := fr.1 y hy
  exact ⟨a, e, g7.top.free h⟩
/-- what a turn takes: a way, where there is one -/
def TwOk (t : Tr) (tw : List Place) : Prop := (0 < tw.length ∧ tw.length ≤ 4) ∧ (allW t ≠ [] → tw ∈ allW t)
theorem many_len (t : Tr) : manyW t = ((allW t).length : Int) := by
  unfold manyW allW cnt
  split <;> rfl
end Sky

set_option Elab.async false
set_option linter.all false
set_option maxRecDepth 100000
set_option maxHeartbeats 4000000
/-! law. -/
namespace Sky
open PySem PySem.Spec PyProof.Rows L2
open LamX (Tabs TabS ExtN CodeO TabB)
section
variable {P : Program} {w : World} {K : PySem.W.Frag} {mg : Str → Option Value} {base : Heap} {W : Wd} {pA : Addr}
def spLaw (K : PySem.W.Frag) (T : List (Addr × Str)) : Sp := fun vs H Q _ => ∃ (a : Addr) (ns : List Int), vs = [.ref a] ∧ SqL K H a (ns.map V.int) ∧ Tabs T H ∧ ∀ H', Q (.bl true) H'
theorem scr_drop {v : V} {H : Hp} (h : (scrI K).P v H) : (scrI K).P v (dropT H) := by
  obtain ⟨a, ns, e, h⟩ := h
  refine ⟨a, ns, e, ?_⟩
  rcases h with (h | ⟨o, h⟩) | h
  · exact .inl (.inl (dropT_of h fun _ z => by cases z))
  · exact .inl (.inr ⟨o, dropT_of h fun _ z => by cases z⟩)
  · exact .inr h
theorem sc_law : FnScope ["_law_script", "_law_bag_here", "_law_turn", "_law_sea_here", "_law_tour_here", "_law_cruise_here", "_law_tracks_here", "_law_again", "_law_told", "_law_track"] ["_law_script"] (defScope s_law) := C8.fnScope_by (by decide +kernel)
theorem ok_law {f0 : Addr} {fd : FuncData} (T : Bt mg) (c_law_bag : C8.Cal P w K mg base 1 "_law_bag" (spBag K) []) (c_law_sea : C8.Cal P w K mg base 4 "_law_sea" spSea []) (c_law_tour : C8.Cal P w K mg base 3 "_law_tour" spTour []) (c_law_cruise : C8.Cal P w K mg base 8 "_law_cruise" (spCruise W) []) (c_law_tracks : C8.Cal P w K mg base 3 "_law_tracks" spTracks []) (cways : ZCal P w K mg base 10 "ways" (spWays W)) (cmany_ways : C8.Cal P w K mg base 10 "many_ways" (spMany W) []) (c_law_same : C8.Cal P w K mg base 4 "_law_same" (spSame 4) []) (c_law_of : C8.Cal P w K mg base 2 "_law_of" spOf []) (cis_way : C8.Cal P w K mg base 7 "is_way" (spIsWay W) []) (c_law_judged_so : C8.Cal P w K mg base 10 "_law_judged_so" (spJudged W [(pA, qL)]) []) (F : FunD K "law" "law" (defArgs s_law) (defBody s_law) (defScope s_law) [] [] f0 fd) : FnOk P w K mg base C8.CX0 14 f0 fd ["_law_script"] (spLaw K [(pA, qL)]) := by
  have sc := sc_law
  refine okN F sc (fun vs H Q E ⟨a, ns, e, _⟩ => by rw [e]; rfl) fun f cdv A outer s H vs Q E hr hsp => ?_
  refine ⟨_, (pss_cons (ps_set (i := 1) sc.nd rfl (by first | exact Or.inl rfl | exact Or.inr rfl) (C8.pe_c c_law_bag hr (by decide) (by rfl) (pa_cons (pv 0) pa_nil)))
    (pss_cons (ps_for PassesOwn.never rfl (pi_range1 (by rfl) T.n_range (pa_cons pe_int pa_nil)) (pg_name (i := 2) sc.nd rfl (by first | exact Or.inl rfl | exact Or.inr rfl))
      (pss_cons (ps_set (i := 3) sc.nd rfl (by first | exact Or.inl rfl | exact Or.inr rfl) (C8.pe_c c_law_sea hr (by decide) (by rfl) (pa_cons (pv 1) (pa_cons pe_int pa_nil))))
      (pss_cons (ps_set (i := 4) sc.nd rfl (by first | exact Or.inl rfl | exact Or.inr rfl) (C8.pe_c c_law_tour hr (by decide) (by rfl) (pa_cons (pv 1) (pa_cons (pv 3) (pa_cons pe_int pa_nil)))))
      (pss_cons (ps_par (i := 5) (j := 6) rfl sc.nd rfl rfl (by decide) rfl rfl (pa_cons (C8.pe_c c_law_cruise hr (by decide) (by rfl) (pa_cons (pv 3) (pa_cons (pv 4) pa_nil))) (pa_cons (C8.pe_c c_law_tracks hr (by decide) (by rfl) (pa_cons (pv 3) (pa_cons (pv 4) (pa_cons (pe_ix ix_tup (pv 4) pe_int (fun _ _ => rfl)) pa_nil)))) pa_nil)) rfl)
      (pss_cons (ps_for PassesOwn.never rfl (pi_range1 (by rfl) T.n_range (pa_cons pe_int pa_nil)) (pg_name (i := 7) sc.nd rfl (by first | exact Or.inl rfl | exact Or.inr rfl))
        (pss_cons (ps_setLcZ (i := 8) (k := 10) (own := [("_law_track", 9)]) sc.nd hr rfl rfl (sw_true rfl rfl rfl (by decide +kernel)) (pz_c cways (hr.mono (by decide)) (by rfl) (pa_cons (pv 5) pa_nil)) (blkOk_by (own := [("_law_track", 9)]) (N := ["_law_script", "_law_bag_here", "_law_turn", "_law_sea_here", "_law_tour_here", "_law_cruise_here", "_law_tracks_here", "_law_again", "_law_told", "_law_track"]) (sc := defScope s_law) (by decide +kernel)) rfl (by decide))
        (pss_cons (ps_if (pt_not (pt_val (C8.pe_c c_law_same hr (by decide) (by rfl) (pa_cons (pv 8) (pa_cons (pv 6) pa_nil))))) (pss_one (ps_ret pe_bl)) pss_nil)
        (pss_one (ps_for PassesOwn.never rfl (pi_list (pv 8)) (pg_name (i := 9) sc.nd rfl (by first | exact Or.inl rfl | exact Or.inr rfl))
          (pss_one (ps_expr (pe_bm PySem.F.plainAttrs_list PySem.F.slot_list_append PySem.F.type_list_append mt_append (pv 9) (pa_cons pe_non pa_nil)))))))))
      (pss_cons (ps_if (pt_not (pt_val (C8.pe_c c_law_same hr (by decide) (by rfl) (pa_cons (C8.pe_c cmany_ways hr (by decide) (by rfl) (pa_cons (pv 5) pa_nil)) (pa_cons (pe_callB call_len_seq (by rfl) T.n_len bb_len (pa_cons (pv 6) pa_nil)) pa_nil))))) (pss_one (ps_ret pe_bl)) pss_nil)
      (pss_one (ps_for PassesOwn.never rfl (pi_range1 (by rfl) T.n_range (pa_cons pe_int pa_nil)) (pg_name (i := 7) sc.nd rfl (by first | exact Or.inl rfl | exact Or.inr rfl))
        (pss_cons (ps_set (i := 9) sc.nd rfl (by first | exact Or.inl rfl | exact Or.inr rfl) (pe_ifExp (pt_cmpR (op_neD (hud hr)) (pv 6) (pe_lst pa_nil) (nomark _)) (C8.pe_c c_law_of hr (by decide) (by rfl) (pa_cons (pv 1) (pa_cons (pv 6) pa_nil))) (pe_lst (pa_cons (pe_op op_catT (pe_tup (pa_cons (pe_ix ix_tup (pv 4) pe_int (fun _ _ => rfl)) pa_nil)) (pe_ix ix_tup (pv 4) pe_int (fun _ _ => rfl))) pa_nil))))
        (pss_cons (ps_if (PW.pt (pw_and (pt_cmpR (op_neD (hud hr)) (pv 6) (pe_lst pa_nil) (nomark _)) (pw_and1 (pt_not (pt_val (C8.pe_c c_law_same hr (by decide) (by rfl) (pa_cons (pe_lst (pa_cons (C8.pe_c cis_way hr (by decide) (by rfl) (pa_cons (pv 5) (pa_cons (pv 9) pa_nil))) (pa_cons (C8.pe_c cis_way hr (by decide) (by rfl) (pa_cons (pv 5) (pa_cons (pe_callTy call_tuple_of (by rfl) T.n_tuple bb_tuple (pa_cons (pv 9) pa_nil)) pa_nil))) pa_nil))) (pa_cons (pe_lst (pa_cons pe_bl (pa_cons pe_bl pa_nil))) pa_nil)))))))) (pss_one (ps_ret pe_bl)) pss_nil)
        (pss_one (ps_if (pt_not (pt_val (C8.pe_c c_law_judged_so hr (by decide) (by rfl) (pa_cons (pv 1) (pa_cons (pv 3) (pa_cons (pv 5) (pa_cons (pv 4) (pa_cons (pv 6) (pa_cons (pv 9) pa_nil))))))))) (pss_one (ps_ret pe_bl)) pss_nil))))))))))))
    (pss_one (ps_ret pe_bl)))), ?_⟩
  obtain ⟨a, ns, rfl, hS, tb, q⟩ := hsp
  have hscr : (scrI K).P (.ref a) (dropT H) := scr_drop ⟨a, ns, rfl, hS⟩
  refine s_set (I := bagI) (ev_call () (ea1 (ev_var hscr)) trivial) dropT_sub fun vb B1 H1 g1 hb => ?_
  have tb1 : Tabs [(pA, qL)] H1 := tb.ext fun b o e => g1.top b o e
  obtain ⟨Bx, nx, sx, hb⟩ : ∃ B, NoTbl B ∧ Same B H1 ∧ bagI.P vb B := ⟨dropT B1, dropT_no, dropT_sub.trans g1.sub, bagI_drop hb⟩
  refine s_rng (m := 2) (by decide) (fun i σ H => (∃ a2 a3 a4 a5 a6 a7 a8 a9, σ = [some (.ref a), some vb, a2, a3, a4, a5, a6, a7, a8, a9]) ∧ Same Bx H ∧ Tabs [(pA, qL)] H) ⟨⟨_, _, _, _, _, _, _, _, rfl⟩, sx, tb1⟩ ?_ ?_
  rotate_left
  · rintro σ H2 ⟨_, s2, _⟩
    refine s_ret (ev_bl (b := true)) s2 fun v B3 H3 g3 p3 => ?_
    obtain rfl := Rp.bl_eq p3
    exact q H3
  rintro i σ H2 hi ⟨⟨a2, a3, a4, a5, a6, a7, a8, a9, rfl⟩, s2, t2⟩
  refine s_set (I := exI (fun s : Sea => dt (dSea s)) wet) (ev_call () (ea_cons (ev_var hb) (ea1 ev_int)) trivial) s2 fun vs B3 H3 g3 ⟨s, hw, hs⟩ => ?_
  refine s_set (I := exI (fun t : Tr => dt (dTour t)) (TourOk s)) (ev_call s (ea_cons (ev_var (bagI.mono g3.base hb)) (ea_cons (ev_var (I := dt (dSea s)) hs) (ea1 ev_int))) hw) g3.sub fun vt B4 H4 g4 ⟨t, ⟨ok, es, hbn⟩, ht⟩ => ?_
  subst es
  have hs : Rp B4 vs (dSea t.s) := Rp.mono (Sd.of g4.base) hs
  have ht : Rp B4 vt (dTour t) := ht
  refine s_par (I := trI W t) (J := dt (dTs (allW t))) (ea_cons (ev_call t (ea_cons (ev_var (I := dt (dSea t.s)) hs) (ea1 (ev_var (I := dt (dTour t)) ht))) ⟨hw, ok, hbn⟩) (ea1 (ev_call t (ea_cons (ev_var (I := dt (dSea t.s)) hs) (ea_cons (ev_var (I := dt (dTour t)) ht) (ea1 (tour_l (ev_var (I := dt (dTour t)) ht))))) ok))) g4.sub fun vc vk B5 H5 g5 hc hk => ?_
  have g35 := (g3.trans g4).trans g5
  have t5 : Tabs [(pA, qL)] H5 := t2.ext fun b o e => g35.top b o e
  obtain ⟨By, ny, sy, bxy, hb', hs', ht', hc', hk'⟩ : ∃ B, NoTbl B ∧ Same B H5 ∧ Same Bx B ∧ bagI.P vb B ∧ Rp B vs (dSea t.s) ∧ Rp B vt (dTour t) ∧ (trI W t).P vc B ∧ Rp B vk (.list ((allW t).map dPs)) :=
    ⟨dropT B5, dropT_no, dropT_sub.trans g5.sub, same_drop nx g35.base, bagI_drop (bagI.mono g35.base hb), rp_drop (Rp.mono (Sd.of g5.base) hs), rp_drop (Rp.mono (Sd.of g5.base) ht), trI_drop hc, rp_drop hk⟩
  refine s_rng (m := 2) (by decide) (fun j σ H => (∃ a7 a8 a9, σ = [some (.ref a), some vb, some (.int (i : Nat)), some vs, some vt, some vc, some vk, a7, a8, a9]) ∧ Same By H ∧ Tabs [(pA, qL)] H) ⟨⟨_, _, _, rfl⟩, sy, t5⟩ ?_ ?_
  · rintro j σ H6 hj ⟨⟨b7, b8, b9, rfl⟩, s6, t6⟩
    refine s_told (ev_var hc') ok s6 fun ys B8 H8 p g8 ry fr hp => ?_
    have hpB : B8 p = none := g8.sub.free hp
    have s9 : Same (upd B8 p (.lst ys)) (upd H8 p (.lst ys)) := Same.both g8.sub
    have sBy : Same By (upd B8 p (.lst ys)) := g8.base.trans (same_new hpB)
    have rt : Rp (upd B8 p (.lst ys)) (.ref p) (dTs (allW t)) := .lst upd_same (ry.mono (Sd.of (same_new hpB)))
    have hk9 : Rp (upd B8 p (.lst ys)) vk (dTs (allW t)) := Rp.mono (Sd.of sBy) hk'
    have hsame : EvD (tCall (spSame 4) [] C8.E0 (tCons (tVar 8) (tCons (tVar 6) tNil))) [some (.ref a), some vb, some (.int (i : Nat)), some vs, some vt, some vc, some vk, some (.int (j : Nat)), some (.ref p), b9] (upd B8 p (.lst ys)) (.bool true) := ev_call (dTs (allW t)) (ea_cons (ev_var (I := dt (dTs (allW t))) rt) (ea1 (ev_var (I := dt (dTs (allW t))) hk9))) (sm_tracks ok)
    refine s_ifN ((et_not (b := true) (et_B hsame)).is rfl) s9 fun B10 H10 g10 => ?_
    have up : ∀ b o, H6 b = some o → H10 b = some o := fun b o e => g10.top b o (same_new hp b o (g8.top b o e))
    refine s_app (B := By) (T := [(pA, qL)]) (p := p) (ys := ys) (by rw [ry.length, List.length_map]; exact Nat.le_trans (allW_len ok) (by decide)) (fun σ => ∃ x, σ = [some (.ref a), some vb, some (.int (i : Nat)), some vs, some vt, some vc, some vk, some (.int (j : Nat)), some (.ref p), x]) (fun σ ⟨x, e⟩ => by rw [e]; rfl) (fun σ v ⟨x, e⟩ => by rw [e]; exact ⟨⟨_, rfl⟩, rfl⟩) ⟨_, rfl⟩
      (fun b o e => up b o (s6 b o e)) ((s6.trans g8.top).free hp) (g10.top _ _ upd_same) (fun y hy => ?_) (t6.ext up) fun σ H ⟨x, e⟩ s t => ⟨⟨_, _, _, e⟩, s, t⟩
    obtain ⟨c, xs, u, e1, e2, e3, e4⟩ := rpa_lists ry y hy
    obtain ⟨c', e5, e6⟩ := fr y hy
    rw [e1] at e5
    cases e5
    have hcp : c ≠ p := fun z => by
      rw [z, hpB] at e2
      cases e2
    refine ⟨c, xs, e1, hcp, s6.free e6, g10.top _ _ ?_, by rw [e4]; exact (all_chain ok e3).2.1⟩
    rw [upd_ne hcp]
    exact g8.sub _ _ e2
  rintro σ H6 ⟨⟨b7, b8, b9, rfl⟩, s6, t6⟩
  have hmany : EvD (tCall (spMany W) [] C8.E0 (tCons (tVar 5) tNil)) [some (.ref a), some vb, some (.int (i : Nat)), some vs, some vt, some vc, some vk, b7, b8, b9] By (.int ((allW t).length : Nat)) := Ev.is (d := .int (manyW t)) (ev_call t (ea1 (ev_var hc')) ok) (by rw [many_len])
  have hlen : EvD (tCB (rLn K) (tCons (tVar 6) tNil)) [some (.ref a), some vb, some (.int (i : Nat)), some vs, some vt, some vc, some vk, b7, b8, b9] By (.int ((allW t).length : Nat)) := (ev_lenL (ev_var (I := dt (.list ((allW t).map dPs))) hk')).is (by rw [List.length_map])
  have hsame2 : EvD (tCall (spSame 4) [] C8.E0 (tCons (tCall (spMany W) [] C8.E0 (tCons (tVar 5) tNil)) (tCons (tCB (rLn K) (tCons (tVar 6) tNil)) tNil))) [some (.ref a), some vb, some (.int (i : Nat)), some vs, some vt, some vc, some vk, b7, b8, b9] By (.bool true) := ev_call (PyData.int ((allW t).length : Nat)) (ea_cons hmany (ea1 hlen)) (show SmD 4 (.int _) from trivial)
  refine s_ifN ((et_not (b := true) (et_B hsame2)).is rfl) s6 fun B7 H7 g7 => ?_
  have s7 : Same By H7 := s6.trans g7.top
  have t7 : Tabs [(pA, qL)] H7 := t6.ext fun b o e => g7.top b o e
  refine s_rng1 (m := 8) (by decide) (fun j σ H => (∃ a7 a8 a9, σ = [some (.ref a), some vb, some (.int (i : Nat)), some vs, some vt, some vc, some vk, a7, a8, a9]) ∧ Same By H ∧ Tabs [(pA, qL)] H) ⟨⟨_, _, _, rfl⟩, s7, t7⟩ ?_ fun σ H8 ⟨⟨c7, c8, c9, e⟩, s8, t8⟩ => ⟨⟨_, _, _, _, _, _, _, _, e⟩, bxy.trans s8, t8⟩
  rintro j σ H8 hj ⟨⟨c7, c8, c9, rfl⟩, s8, t8⟩
  have test : ∀ {B σ}, Rp B vk (.list ((allW t).map dPs)) → σ[6]? = some (some vk) → EvT (tTest (tOp (rNeD K) (tVar 6) (tLst tNil))) σ B (!((allW t).map dPs).isEmpty) := fun hk e => (et_test (ev_op (ev_var (I := dt (.list ((allW t).map dPs))) hk e) (ev_lst (ds := []) ea_nil (by decide)) (rv_neD (sh_dTs _) (sh_dTs [])))).is (ne_nil_eqv _)
  have hel := ok.el
  have htw : Ev (tIf (tTest (tOp (rNeD K) (tVar 6) (tLst tNil))) (tCall spOf [] C8.E0 (tCons (tVar 1) (tCons (tVar 6) tNil))) (tLst (tCons (tOp (rCatT K) (tTup (tCons (tOp (rIxT K) (tVar 4) (tC (.int 2))) tNil)) (tOp (rIxT K) (tVar 4) (tC (.int 0)))) tNil))) [some (.ref a), some vb, some (.int (i : Nat)), some vs, some vt, some vc, some vk, some (.int (j : Nat)), c8, c9] By (exI (fun tw : List Place => dt (dPs tw)) (TwOk t)) := by
    refine ev_if (test hk' rfl) (fun e => Ev.imp (ev_call ((allW t).map dPs) (ea_cons (ev_var hb') (ea1 (ev_var (I := dt (.list ((allW t).map dPs))) hk'))) ⟨?_, ?_⟩) fun v A ⟨d, hd, r⟩ => ?_) fun e => Ev.imp (ev_lst (ds := [dP (startP t)]) (ea1 (tour_start (ev_var (I := dt (dTour t)) ht'))) (by show 1 ≤ 100000; decide)) fun v A r => ?_
    · cases h : (allW t).map dPs with
      | nil =>
        rw [h] at e
        cases e
      | cons x l => exact Nat.zero_lt_succ _
    · rw [List.length_map]
      exact Nat.le_trans (allW_len ok) (by decide)
    · obtain ⟨tw, h1, rfl⟩ := List.mem_map.mp hd
      obtain ⟨h2, h3, _⟩ := all_chain ok h1
      exact ⟨tw, ⟨⟨List.length_pos_iff.mpr h2, h3⟩, fun _ => h1⟩, r⟩
    · refine ⟨[startP t], ⟨⟨Nat.zero_lt_one, by show 1 ≤ 4; decide⟩, fun z => ?_⟩, r⟩
      cases h : allW t with
      | nil => exact absurd h z
      | cons x l =>
        rw [h] at e
        cases e
  refine s_set htw s8 fun vr B9 H9 g9 ⟨tw, htw, hr9⟩ => ?_
  have hr9 : Rp B9 vr (.list (tw.map dP)) := hr9
  have hk9 : Rp B9 vk (.list ((allW t).map dPs)) := Rp.mono (Sd.of g9.base) hk'
  have hc9 := (trI W t).mono g9.base hc'
  have hcond : EvT (tAnd (tTest (tOp (rNeD K) (tVar 6) (tLst tNil))) (tNot (tB (tCall (spSame 4) [] C8.E0 (tCons (tLst (tCons (tCall (spIsWay W) [] C8.E0 (tCons (tVar 5) (tCons (tVar 9) tNil))) (tCons (tCall (spIsWay W) [] C8.E0 (tCons (tVar 5) (tCons (tCB (rTp K) (tCons (tVar 9) tNil)) tNil))) tNil))) (tCons (tLst (tCons (tC (.bl true)) (tCons (tC (.bl true)) tNil))) tNil))))))
      [some (.ref a), some vb, some (.int (i : Nat)), some vs, some vt, some vc, some vk, some (.int (j : Nat)), c8, some vr] B9 false := by
    refine (et_and (c := false) (test hk9 rfl) fun e => ?_).is (Bool.and_false _)
    have hne : allW t ≠ [] := fun z => by
      rw [z] at e
      cases e
    have hin := htw.2 hne
    have w1 : isWayB t (.list (tw.map dP)) = true := by rw [isWay_right ok (ps := tw) rfl]; exact decide_eq_true hin
    have w2 : isWayB t (.tuple (tw.map dP)) = true := by rw [isWay_right ok (ps := tw) rfl]; exact decide_eq_true hin
    have hl4 : ∀ xs, some (tw.map dP) = some xs → xs.length ≤ 1000 := fun xs z => by
      cases z
      rw [List.length_map]
      exact Nat.le_trans htw.1.2 (by decide)
    have e1 : EvD (tCall (spIsWay W) [] C8.E0 (tCons (tVar 5) (tCons (tVar 9) tNil))) [some (.ref a), some vb, some (.int (i : Nat)), some vs, some vt, some vc, some vk, some (.int (j : Nat)), c8, some vr] B9 (.bool true) := Ev.is (d := .bool (isWayB t (.list (tw.map dP)))) (ev_call (t, PyData.list (tw.map dP)) (ea_cons (ev_var hc9) (ea1 (ev_var (I := dt (.list (tw.map dP))) hr9))) ⟨ok, hl4⟩) (by rw [w1])
    have e2 : EvD (tCall (spIsWay W) [] C8.E0 (tCons (tVar 5) (tCons (tCB (rTp K) (tCons (tVar 9) tNil)) tNil))) [some (.ref a), some vb, some (.int (i : Nat)), some vs, some vt, some vc, some vk, some (.int (j : Nat)), c8, some vr] B9 (.bool true) := Ev.is (d := .bool (isWayB t (.tuple (tw.map dP)))) (ev_call (t, PyData.tuple (tw.map dP)) (ea_cons (ev_var hc9) (ea1 (ev_cb (ea1 (ev_var (I := dt (.list (tw.map dP))) hr9)) rc_tuple))) ⟨ok, hl4⟩) (by rw [w2])
    have e3 : EvD (tCall (spSame 4) [] C8.E0 (tCons (tLst (tCons (tCall (spIsWay W) [] C8.E0 (tCons (tVar 5) (tCons (tVar 9) tNil))) (tCons (tCall (spIsWay W) [] C8.E0 (tCons (tVar 5) (tCons (tCB (rTp K) (tCons (tVar 9) tNil)) tNil))) tNil))) (tCons (tLst (tCons (tC (.bl true)) (tCons (tC (.bl true)) tNil))) tNil))) [some (.ref a), some vb, some (.int (i : Nat)), some vs, some vt, some vc, some vk, some (.int (j : Nat)), c8, some vr] B9 (.bool true) :=
      ev_call (PyData.list [.bool true, .bool true]) (ea_cons (ev_lst (ds := [.bool true, .bool true]) (ea_cons e1 (ea1 e2)) (by show 2 ≤ 100000; decide)) (ea1 (ev_lst (ds := [.bool true, .bool true]) (ea_cons ev_bl (ea1 ev_bl)) (by show 2 ≤ 100000; decide)))) ⟨by show 2 ≤ 1000; decide, fun x hx => by
        simp only [List.mem_cons, List.not_mem_nil, or_false] at hx
        rcases hx with rfl | rfl <;> trivial⟩
    exact (et_not (b := true) (et_B e3)).is rfl
  refine s_ifN hcond g9.sub fun B10 H10 g10 => ?_
  have g910 := g9.trans g10
  have t10 : Tabs [(pA, qL)] H10 := t8.ext fun b o e => g910.top b o e
  have sB := g910.base
  refine ⟨vb, rfl, vs, rfl, vc, rfl, vt, rfl, vk, rfl, vr, rfl, t, tw, dropT B10, hw, ok, htw.1, dropT_no, dropT_sub.trans g10.sub, t10,
    .cons (bagI_drop (bagI.mono sB hb')) (.cons (rp_drop (Rp.mono (Sd.of sB) hs')) (.cons (trI_drop ((trI W t).mono sB hc')) (.cons trivial (.cons (rp_drop (Rp.mono (Sd.of sB) hk')) (.cons (rp_drop (Rp.mono (Sd.of g10.base) hr9)) .nil))))), fun H12 s12 t12 => ⟨true, rfl, if_no rfl ?_⟩⟩
  exact ⟨⟨_, _, _, rfl⟩, (same_drop ny sB).trans s12, t12⟩
end
end Sky

set_option Elab.async false
set_option linter.all false
set_option maxRecDepth 100000
set_option maxHeartbeats 4000000
/-! What is told of the heap behind the top: an own Hook. -/
namespace Sky
open PySem PySem.Spec PyProof.Rows L2
open He (ga ma fAd ba)
/-! ### the part looked at -/
def refsS (o : Obj) : List Addr := match o.data with
  | .seq its _ => its.toList.flatMap He.refV
  | .dict es _ => es.toList.flatMap fun e => He.refV e.val
  | .func fd => He.refV fd.code ++ (He.refV fd.defaults ++ (He.refV fd.kwdefaults ++ fd.closure.map (·.2)))
  | .cls cd => [cd.ns]
  | _ => []
def layS (g : Addr → Option Obj) : Nat → List Addr → List Addr
  | 0, as => as
  | n + 1, as => as ++ layS g n (as.flatMap fun a => match g a with
    | some o => refsS o
    | none => [])
def asS (g : Addr → Option Obj) : List Addr := cStatics :: layS g 5 [mainGlobals]
/-! ### tuples, constants of a class, an error class -/
def tupA (K : PySem.W.Frag) (a : Addr) (vs : List V) : Bool := match K.lookup a with
  | some ⟨.type c, _, .seq its _, _⟩ => decide (c = "tuple") && (decide (its.size ≤ sizeLine) && He.relAll vs its.toList)
  | _ => false
def itA (K : PySem.W.Frag) (a : Addr) (i : Nat) : Addr := match K.lookup a with
  | some ⟨_, _, .seq its _, _⟩ => (match its.toList[i]? with
    | some (.ref b) => b
    | _ => 0)
  | _ => 0
def clsInt (K : PySem.W.Frag) (C : Addr) (x : Str) (i : Int) : Bool := match PySem.W.findCls K (.ref C) (.type "type") x with
  | some (.val (.int j _)) => decide (j = i)
  | _ => false
def oexB (K : PySem.W.Frag) (C : Addr) : Bool := match K.lookup C with
  | some ⟨.type "type", _, .cls cd, sl⟩ => (match cd.mro, sl.toList with
    | .ref C' :: bm, [_, _, _, _, some (.builtin n), _] => C' == C && n == "ValueError.__new__" && !cd.hasDel && cd.hasDict && PySem.HandSPX.refsVE bm
    | _, _ => false)
  | _ => false
section
variable {K : PySem.W.Frag} {a C : Addr} {vs : List V} {x : Str} {i : Int}
theorem tupA_ok (h : tupA K a vs = true) (H : Hp) : SqT K H a vs := by
  unfold tupA at h
  cases q : K.lookup a with
  | none =>
    rw [q] at h
    cases h
  | some o =>
    obtain ⟨oc, od, dt, osl⟩ := o
    rw [q] at h
    cases oc with
    | type c =>
      cases dt with
      | seq its n =>
        obtain ⟨h1, h2⟩ := ba (show (decide (c = "tuple") && (decide (its.size ≤ sizeLine) && He.relAll vs its.toList)) = true from h)
        obtain ⟨h3, h4⟩ := ba h2
        exact .inr ⟨_, its, n, q, congrArg Value.type (of_decide_eq_true h1), rfl, of_decide_eq_true h3, He.relAll_ok h4⟩
      | _ => cases h
    | _ => cases dt <;> cases h
theorem clsInt_ok (h : clsInt K C x i = true) : ∃ t, ClX.CVal K C (.type "type") x (.int i) (.int i t) := by
  unfold clsInt at h
  cases q : PySem.W.findCls K (.ref C) (.type "type") x with
  | none =>
    rw [q] at h
    cases h
  | some r =>
    rw [q] at h
    cases r with
    | val u =>
      cases u with
      | int j t =>
        have e : j = i := of_decide_eq_true h
        subst e
        exact ⟨t, q, ⟨t, rfl⟩⟩
      | _ => cases h
    | _ => cases h
theorem oexB_ok (h : oexB K C = true) : ∃ nm q N bs bm sn sub ab col dd k0 k1 k2 k3 k5, K.lookup C = some (excClassObj nm q C N bs bm true sn sub ab col dd k0 k1 k2 k3 k5 "ValueError.__new__") ∧ PySem.HandSPX.refsVE bm = true := by
  unfold oexB at h
  split at h
  · rename_i dd cd sl ho
    split at h
    · rename_i C' bm k0 k1 k2 k3 n k5 hm hs
      simp only [Bool.and_eq_true, beq_iff_eq, Bool.not_eq_true'] at h
      obtain ⟨⟨⟨⟨rfl, rfl⟩, h4⟩, h5⟩, h6⟩ := h
      obtain ⟨nm, bs, mro, ns, qn, hd, sn, sub, ab, col, del⟩ := cd
      dsimp only at hm h4 h5
      subst hm h4 h5
      have hsl : sl = #[k0, k1, k2, k3, some (.builtin "ValueError.__new__"), k5] := by
        obtain ⟨l⟩ := sl
        simp only at hs
        rw [hs]
      subst hsl
      exact ⟨nm, qn, ns, bs, bm, sn, sub, ab, col, dd, k0, k1, k2, k3, k5, ho, h6⟩
    · cases h
  · cases h
end
/-! ### methods with a closure -/
abbrev FnC : Type := Option (Str × Str × Arguments × FuncBody × Scope × Addr × List Str × Addr × Value)
def fnC (K : PySem.W.Frag) (f : Addr) : FnC := match K.lookup f with
  | some ⟨_, _, .func fd, _⟩ => some (fd.name, fd.qualname, fd.params, fd.body, fd.scope, fd.globals, fd.closure.map (·.1), fd.builtins, fd.defaults)
  | _ => none
structure CloD where
  C : Str
  m : Str
  qual : Str
  st : Stmt
def CloD.at_ (K : PySem.W.Frag) (d : CloD) : Addr := ma K (ga K d.C) d.m
def CloD.val (d : CloD) : FnC := some (d.m, d.qual, defArgs d.st, FuncBody.stmts (defBody d.st), defScope d.st, mainGlobals, ["__class__"], builtinsNs, Value.none)
def cellB (K : PySem.W.Frag) (D : Addr) : List (Str × Addr) → Bool
  | [p] => (match K.lookup p.2 with
    | some ⟨_, _, .cell (some (.ref D')), _⟩ => decide (D' = D)
    | _ => false)
  | _ => false
def fileB (K : PySem.W.Frag) (P : Program) : Value → Bool
  | .ref c => (match K.lookup c with
    | some ⟨_, _, .fields vs, _⟩ => (match (vs[2]? : Option Value) with
      | some (.str file _) => (P.main.file : Str) == file
      | _ => false)
    | _ => false)
  | _ => false
def cloB (K : PySem.W.Frag) (P : Program) (f D : Addr) (qual : Str) : Bool := match K.lookup f with
  | some ⟨_, _, .func fd, _⟩ => PySem.W.codeIn K fd.code qual && (cellB K D fd.closure && fileB K P fd.code)
  | _ => false
section
variable {K : PySem.W.Frag} {P : Program} {D : Addr}
theorem cellB_ok {l : List (Str × Addr)} (h : cellB K D l = true) : ∃ x c cl cld csl, l = [(x, c)] ∧ K.lookup c = some ⟨cl, cld, .cell (some (.ref D)), csl⟩ := by
  unfold cellB at h
  split at h
  · rename_i p
    obtain ⟨x, c⟩ := p
    split at h
    · rename_i cl cld D' csl ho
      have e : D' = D := of_decide_eq_true h
      subst e
      exact ⟨x, c, cl, cld, csl, rfl, ho⟩
    · cases h
  · cases h
theorem fileB_ok {v : Value} (h : fileB K P v = true) : ∃ c ccl cdd vs ccs file tf, v = .ref c ∧ K.lookup c = some ⟨ccl, cdd, .fields vs, ccs⟩ ∧ vs[2]? = some (.str file tf) ∧ ((P.main.file : Str) == file) = true := by
  unfold fileB at h
  split at h
  · rename_i c
    split at h
    · rename_i ccl cdd vs ccs ho
      split at h
      · rename_i file tf e
        exact ⟨c, ccl, cdd, vs, ccs, file, tf, rfl, ho, e, h⟩
      · cases h
    · cases h
  · cases h
theorem clo_dfS {d : CloD} {ar : Arg} (e : fnC K (d.at_ K) = d.val) (c : cloB K P (d.at_ K) D d.qual = true) (har : ((defArgs d.st).posonlyargs ++ (defArgs d.st).args).head? = some ar) (hs : ar.arg = "self")
    (h1 : PySem.W.mroIn K D (.ref D) = some true) (h2 : PySem.W.isClsIn K D = true) (h3 : PySem.W.nsIn K cStatics "thirdparty.any" = some none) (h4 : (P.main.scope.names.lookup ("super" : Str)).isSome = false) :
    ∃ fd, DfS P K (d.at_ K) d.m d.qual (defArgs d.st) (defBody d.st) (defScope d.st) .none D fd := by
  unfold fnC at e
  unfold cloB at c
  cases q : K.lookup (d.at_ K) with
  | none =>
    rw [q] at c
    cases c
  | some o =>
    obtain ⟨oc, od, dt, osl⟩ := o
    rw [q] at c e
    cases dt with
    | func fd =>
      obtain ⟨n1, n2, n3, n4, n5, n6, n7, n8, n9, n10, n11, n12, n13, n14, n15⟩ := fd
      have e2 : (some (n1, n2, n3, n4, n5, n6, n7.map (·.1), n15, n8) : FnC) = some (d.m, d.qual, defArgs d.st, FuncBody.stmts (defBody d.st), defScope d.st, mainGlobals, [("__class__" : Str)], builtinsNs, Value.none) := e
      simp only [Option.some.injEq, Prod.mk.injEq] at e2
      obtain ⟨z1, z2, z3, z4, z5, z6, z7, z8, z9⟩ := e2
      subst z1 z2 z3 z4 z5 z6 z8 z9
      have c3 : (PySem.W.codeIn K n13 d.qual && (cellB K D n7 && fileB K P n13)) = true := c
      obtain ⟨k1, k2⟩ := ba c3
      obtain ⟨k3, k4⟩ := ba k2
      obtain ⟨x, cc, cl, cld, csl, rfl, lc⟩ := cellB_ok k3
      obtain ⟨cda, ccl, cdd, vs, ccs, file, tf, rfl, lk, ev, ef⟩ := fileB_ok k4
      have ex : x = "__class__" := by
        have z : [x] = [("__class__" : Str)] := z7
        injection z
      subst ex
      exact ⟨_, ⟨oc, od, n9, n10, n11, n12, cda, n14, osl, cc, cl, cld, csl, ccl, cdd, vs, ccs, file, tf, ar, rfl, q, k1, lc, lk, ev, ef, har, hs⟩, h1, h2, h3, h4⟩
    | _ => cases c
end
/-! ### the Hook -/
abbrev AlS : Type := He.AlD × (List FnC × Bool)
def obsS (fa : List He.Fa) (fn : List He.DefD) (cl : List CloD) (tj : He.Defn) (ex : PySem.W.Frag → Bool) (g : Addr → Option Obj) (K : PySem.W.Frag) : AlS := (He.obsD fa fn K, (cl.map fun d => fnC K (d.at_ K), ex K && He.tabsB g [tj] K))
def valS (fn : List He.DefD) (cl : List CloD) : AlS := (He.valD fn, (cl.map CloD.val, true))
def obsSG (fa : List He.Fa) (fn : List He.DefD) (cl : List CloD) (tj : He.Defn) (ex : PySem.W.Frag → Bool) (g : Addr → Option Obj) : AlS := obsS fa fn cl tj ex g (He.frT g (asS g))
structure SaysS (fa : List He.Fa) (fn : List He.DefD) (cl : List CloD) (tj : He.Defn) (ex : PySem.W.Frag → Bool) (h : Heap) (K : PySem.W.Frag) : Prop where
  d : He.SaysD fa fn K
  clo : (cl.map fun d => fnC K (d.at_ K)) = cl.map CloD.val
  more : ex K = true
  hd : PySem.W.codeHdIn K (He.cT K tj).1 (He.cT K tj).2 = true
  out : K.lookup (He.cT K tj).2 = none
  empty : h.get? (He.cT K tj).2 = some { cls := .none, data := .fields #[] }
section
variable {fa : List He.Fa} {fn : List He.DefD} {cl : List CloD} {tj : He.Defn} {ex : PySem.W.Frag → Bool}
theorem saysS_of {h : Heap} (e : obsSG fa fn cl tj ex h.get? = valS fn cl) : SaysS fa fn cl tj ex h (He.frT h.get? (asS h.get?)) := by
  have e1 : He.obsD fa fn (He.frT h.get? (asS h.get?)) = He.valD fn := congrArg (fun z : AlS => z.1) e
  have e2 : (cl.map fun d => fnC (He.frT h.get? (asS h.get?)) (d.at_ (He.frT h.get? (asS h.get?)))) = cl.map CloD.val := congrArg (fun z : AlS => z.2.1) e
  have e3 : (ex (He.frT h.get? (asS h.get?)) && He.tabsB h.get? [tj] (He.frT h.get? (asS h.get?))) = true := congrArg (fun z : AlS => z.2.2) e
  obtain ⟨h1, h2⟩ := ba e3
  obtain ⟨h3, h4⟩ := ba (List.all_eq_true.mp h2 tj (List.mem_singleton.mpr rfl))
  cases q : h.get? (He.cT (He.frT h.get? (asS h.get?)) tj).2 with
  | none =>
    rw [q] at h4
    cases h4
  | some o =>
    rw [q] at h4
    have h5 : He.emptyTab o = true := h4
    exact ⟨e1, e2, h1, h3, He.frT_none q h5, by rw [q, He.emptyTab_eq h5]⟩
theorem SaysS.cloAt {h : Heap} {K : PySem.W.Frag} (c : SaysS fa fn cl tj ex h K) (i : Nat) {d : CloD} (hi : cl[i]? = some d) : fnC K (d.at_ K) = d.val := by
  have e2 : (cl.map fun d => fnC K (d.at_ K))[i]? = (cl.map CloD.val)[i]? := by rw [c.clo]
  rw [List.getElem?_map, List.getElem?_map, hi] at e2
  exact Option.some.inj e2
def hookS (fa : List He.Fa) (fn : List He.DefD) (cl : List CloD) (tj : He.Defn) (ex : PySem.W.Frag → Bool) : PySem.W.Hook where
  α := AlS
  obs := fun s => obsSG fa fn cl tj ex s.heap.get?
  val := fun _ => valS fn cl
  says := fun _ h => ∃ K : PySem.W.Frag, K.In h ∧ SaysS fa fn cl tj ex h K
  of := fun _ _ e => ⟨_, He.frT_in, saysS_of e⟩
  keeps := fun _ _ _ ⟨K, hK, c⟩ k => ⟨K, PySem.W.Frag.In.keeps hK k, ⟨c.d, c.clo, c.more, c.hd, c.out, k _ _ c.empty⟩⟩
theorem obsSG_eq {g : Addr → Option Obj} {s : Shared} (h : ∀ a, g a = s.heap.get? a) : obsSG fa fn cl tj ex g = (hookS fa fn cl tj ex).obs s := by
  have e : g = s.heap.get? := funext h
  rw [e] <;> rfl
end
end Sky

set_option Elab.async false
set_option linter.all false
set_option maxRecDepth 100000
set_option maxHeartbeats 0
/-! The facts of the heap behind the top, by names; the run. -/
namespace Sky
open PySem PySem.Spec PyProof.Rows L2
open He (ga ma fAd ba)
def plD (x : Str) (st : Stmt) : He.DefD := ⟨(x, none), x, x, defArgs st, defBody st, defScope st, [], []⟩
def meD (C m q : Str) (st : Stmt) (dfl : List He.Dv) (kwd : List (Str × He.Dv)) : He.DefD := ⟨(C, some m), m, q, defArgs st, defBody st, defScope st, dfl, kwd⟩
/-- the defs -/
def fn1 : List He.DefD := [plD "start_place" s_start_place, plD "goal_place" s_goal_place, plD "reached_moves" s_reached_moves, plD "way_moves" s_way_moves,
  plD "is_number" s_is_number, plD "is_cell" s_is_cell, plD "is_place" s_is_place, plD "follows" s_follows,
  plD "check_way" s_check_way, plD "is_way" s_is_way, plD "ways" s_ways, plD "many_ways" s_many_ways,
  plD "has_water" s_has_water, plD "is_wind" s_is_wind, plD "is_listed" s_is_listed, plD "check_rows" s_check_rows,
  plD "check_winds" s_check_winds, plD "_law_bag" s__law_bag, plD "_law_pull" s__law_pull, plD "_law_of" s__law_of,
  plD "_law_chosen" s__law_chosen, plD "_law_same" s__law_same, plD "_law_field" s__law_field, plD "_law_why" s__law_why,
  plD "_law_refused" s__law_refused, plD "_law_cells" s__law_cells, plD "_law_spots" s__law_spots, plD "_law_field_of" s__law_field_of,
  plD "_law_gusts" s__law_gusts, plD "_law_sea" s__law_sea]
def fn2 : List He.DefD := [plD "_law_moves" s__law_moves, plD "_law_sheet" s__law_sheet, plD "_law_near" s__law_near, plD "_law_tracks" s__law_tracks,
  plD "_law_tour" s__law_tour, plD "_law_cruise" s__law_cruise, plD "_law_bent_track" s__law_bent_track, plD "_law_wrong_at" s__law_wrong_at,
  plD "_law_judged_so" s__law_judged_so, plD "law" s_law, meD "Chart" "check_water" "Chart.check_water" s_Chart_check_water [] [], meD "Chart" "drag" "Chart.drag" s_Chart_drag [] [],
  meD "Chart" "__contains__" "Chart.__contains__" s_Chart___contains__ [] [], meD "Chart" "neighbours" "Chart.neighbours" s_Chart_neighbours [] [], meD "Trip" "next_places" "Trip.next_places" s_Trip_next_places [] [], meD "Trip" "may_be" "Trip.may_be" s_Trip_may_be [] [],
  meD "InvalidWay" "__init__" "InvalidWay.__init__" s_InvalidWay___init__ [] [], meD "Chart" "__init__" "Chart.__init__" s_Chart___init__ [.adr (He.dflAt ("Chart", some "__init__") 0)] [("top", .int 9)], meD "Trip" "__init__" "Trip.__init__" s_Trip___init__ [] [("first", .int 0), ("last", .non)]]
def fnS : List He.DefD := fn1 ++ fn2
/-- the facts -/
def fa1 : List He.Fa := [.glo "start_place", .glo "goal_place", .glo "reached_moves", .glo "way_moves", .glo "is_number", .glo "is_cell",
  .glo "is_place", .glo "follows", .glo "check_way", .glo "is_way", .glo "ways", .glo "many_ways",
  .glo "has_water", .glo "is_wind", .glo "is_listed", .glo "check_rows", .glo "check_winds", .glo "_law_bag",
  .glo "_law_pull", .glo "_law_of", .glo "_law_chosen", .glo "_law_same", .glo "_law_field", .glo "_law_why",
  .glo "_law_refused", .glo "_law_cells", .glo "_law_spots", .glo "_law_field_of", .glo "_law_gusts", .glo "_law_sea",
  .glo "_law_moves", .glo "_law_sheet", .glo "_law_near", .glo "_law_tracks", .glo "_law_tour", .glo "_law_cruise",
  .glo "_law_bent_track", .glo "_law_wrong_at"]
def fa2 : List He.Fa := [.glo "_law_judged_so", .glo "law", .glo "DIRECTIONS", .glo "FORWARD", .glo "Chart", .glo "Trip",
  .glo "GuardedTrip", .glo "InvalidWay", .glo "SkyError", .glo "Missing", .free "len", .free "sorted",
  .free "isinstance", .free "tuple", .free "list", .free "int", .free "bool", .free "str",
  .free "abs", .free "sum", .free "all", .free "any", .free "range", .free "enumerate",
  .free "zip", .free "reversed", .free "super", .int "LAST_INDEX" 5, .int "LAST_HOUR" 8, .int "MOST_TOLL" 99,
  .int "GREATEST_charts" 99, .cls "Chart"]
def fa3 : List He.Fa := [.cls "Trip", .cls "GuardedTrip", .noat "Chart" "top", .noat "Chart" "last", .noat "Chart" "held_rows", .noat "Chart" "held_winds",
  .noat "Chart" "drags", .noat "Trip" "chart", .noat "Trip" "start", .noat "Trip" "goal", .noat "Trip" "first", .noat "Trip" "last",
  .noat "Trip" "_barred", .noat "GuardedTrip" "chart", .noat "GuardedTrip" "start", .noat "GuardedTrip" "goal", .noat "GuardedTrip" "first", .noat "GuardedTrip" "last",
  .noat "GuardedTrip" "_barred", .meth "Chart" "check_water", .meth "Chart" "drag", .meth "Chart" "__contains__", .meth "Chart" "neighbours", .meth "Trip" "next_places",
  .meth "Trip" "may_be", .meth "GuardedTrip" "next_places", .meth "GuardedTrip" "may_be", .mkr "Chart", .mkr "Trip", .mkr "GuardedTrip"]
def faS : List He.Fa := fa1 ++ (fa2 ++ fa3)
def clS : List CloD := [⟨"GuardedTrip", "next_places", "GuardedTrip.next_places", s_GuardedTrip_next_places⟩, ⟨"GuardedTrip", "may_be", "GuardedTrip.may_be", s_GuardedTrip_may_be⟩, ⟨"GuardedTrip", "__init__", "GuardedTrip.__init__", s_GuardedTrip___init__⟩]
def tJ : He.Defn := ("_law_judged_so", none)
/-! ### further facts -/
def aC (K : PySem.W.Frag) : Addr := ga K "Chart"
def aT (K : PySem.W.Frag) : Addr := ga K "Trip"
def aG (K : PySem.W.Frag) : Addr := ga K "GuardedTrip"
def aW (K : PySem.W.Frag) : Addr := ga K "InvalidWay"
def aF (K : PySem.W.Frag) (i : Nat) : Addr := itA K (ga K "FORWARD") i
def wdK (K : PySem.W.Frag) : Wd := ⟨ga K "DIRECTIONS", ga K "FORWARD", aF K 0, aF K 1, aF K 2, aF K 3, aF K 4, aC K, aT K, aG K, .type "type"⟩
def supB (K : PySem.W.Frag) (m : Str) : Bool := He.eqO (PySem.W.ks_superIn K (aG K) (aG K) m) (some (some (.ref (ma K (aT K) m)))) && (decide (PySem.W.typeIn K (.ref (ma K (aT K) m)) = some (.type "function")) && PySem.W.fnIn K (ma K (aT K) m))
def exL1 (K : PySem.W.Frag) : List Bool := [tupA K (ga K "DIRECTIONS") [.str "stay", .str "north", .str "east", .str "south", .str "west"],
  tupA K (ga K "FORWARD") [.ref (aF K 0), .ref (aF K 1), .ref (aF K 2), .ref (aF K 3), .ref (aF K 4)],
  tupA K (aF K 0) [.int 1, .int (-1), .int 0], tupA K (aF K 1) [.int 4, .int 0, .int (-1)], tupA K (aF K 2) [.int 0, .int 0, .int 0], tupA K (aF K 3) [.int 2, .int 0, .int 1], tupA K (aF K 4) [.int 3, .int 1, .int 0],
  PySem.W.readsIn K (aC K) (.type "type"), He.eqO (PySem.W.specialIn K (.ref (aC K)) "__getattribute__") (some (some (.builtin "type.__getattribute__"))), clsInt K (aC K) "MOST_ROWS" 6, clsInt K (aC K) "MOST_HOURS" 8, decide (aT K ≠ aG K)]
def exL2 (K : PySem.W.Frag) : List Bool := [oexB K (aW K), He.eqO (PySem.W.findIn K (.ref (aW K)) "__setattr__") (some (some (.builtin "object.__setattr__"))), decide (PySem.W.subIn K (.ref (aW K)) (.type "BaseException") = some true),
  decide (PySem.W.typeIn K (.ref (aW K)) = some (.type "type")), PySem.W.keepIn K (.ref (aW K)), He.eqO (PySem.W.findIn K (.ref (aW K)) "__init__") (some (some (.ref (ma K (aW K) "__init__")))),
  decide (PySem.W.typeIn K (.ref (ma K (aW K) "__init__")) = some (.type "function")), He.eqO (PySem.W.findIn K (.ref (aW K)) "code") (some none), He.eqO (PySem.W.findIn K (.ref (aW K)) "at") (some none), xfB K (aW K),
  decide (PySem.W.exmAny K (.ref (aW K)) [.ref (ga K "SkyError"), .ref (ga K "Missing")] = some true)]
def exL3 (K : PySem.W.Frag) : List Bool := [supB K "next_places", supB K "may_be", supB K "__init__", decide (PySem.W.mroIn K (aG K) (.ref (aG K)) = some true), PySem.W.isClsIn K (aG K), He.eqO (PySem.W.nsIn K cStatics "thirdparty.any") (some none),
  cloB K PW (ma K (aG K) "next_places") (aG K) "GuardedTrip.next_places", cloB K PW (ma K (aG K) "may_be") (aG K) "GuardedTrip.may_be", cloB K PW (ma K (aG K) "__init__") (aG K) "GuardedTrip.__init__"]
def exS (K : PySem.W.Frag) : Bool := (exL1 K).all id && ((exL2 K).all id && (exL3 K).all id)
/-! ### the run -/
abbrev R : PySem.W.OpenRow := PySem.W.OpenLaw.row PySem.Challenge.rw_highestsky_k66_whole_ways_listed
abbrev hk : PySem.W.Hook := hookS faS fnS clS tJ exS
def ob (s : PySem.W.SharedT) : AlS := obsSG faS fnS clS tJ exS (HandSHeadRun.getT s)
theorem ob_eq (s : PySem.W.SharedT) : ob s = hk.obs s.abs := obsSG_eq (HandSHeadRun.getT_eq s)
def looseN : List Str := (PW.main.scope.names.map (·.1)).filter fun x => decide (x ≠ "law")
theorem run (w : World) : HandSHeadRun.RunEq R (PySem.W.view R.prog [83]) hk ob 8000 looseN w := by
  intro os
  kernel_rfl
end Sky

set_option Elab.async false
set_option linter.all false
set_option maxRecDepth 100000
set_option maxHeartbeats 4000000
/-! The facts as the layer wants them; the law at the head. -/
namespace Sky
open PySem PySem.Spec PyProof.Rows L2
open He (ga ma fAd ba)
section
variable {K : PySem.W.Frag} {mg : Str → Option Value} {x m q : Str} {st : Stmt} {ps : List Str} {f C : Addr} {fd : FuncData}
abbrev Bnd (m q : Str) (st : Stmt) (ps : List Str) : Prop := ∀ (kV doc pm : Value) (an : Option Addr) (cdv ct : Value) (us : List Value), us.length = ps.length → bindArgs (PySem.W.fnOf m q (defArgs st) (defBody st) (defScope st) .none kV doc pm an cdv ct) ⟨us, []⟩ = pure (ps.zip us)
theorem dfn_of (F : FunD K x x (defArgs st) (defBody st) (defScope st) [] [] f fd) (g : mg x = some (.ref f)) (hb : Bnd x x st ps) : Dfn K mg x st ps := by
  have b : Binds K fd ps [] := F.bindsN hb
  obtain ⟨oc, od, dV, kV, doc, pm, an, cdv, ct, osl, rfl, lk, hcd, hD, hK⟩ := F.ex
  rcases hD with ⟨_, rfl⟩ | ⟨e, _⟩
  · exact ⟨f, oc, od, kV, doc, pm, an, cdv, ct, osl, g, lk, hcd, F.kp, b⟩
  · exact absurd rfl e
theorem dfnC_of (F : FunD K x x (defArgs st) (defBody st) (defScope st) [] [] (fAd K (x, none)) fd) (g : mg x = some (.ref (fAd K (x, none)))) (hb : Bnd x x st ps) : DfnC K mg x st ps (He.codeOf K (x, none)) := by
  have b : Binds K fd ps [] := F.bindsN hb
  obtain ⟨oc, od, dV, kV, doc, pm, an, cdv, ct, osl, rfl, lk, hcd, hD, hK⟩ := F.ex
  rcases hD with ⟨_, rfl⟩ | ⟨e, _⟩
  · obtain ⟨c, rfl⟩ := He.codeIn_ref hcd
    rw [He.codeOf_eq lk rfl]
    exact ⟨_, oc, od, kV, doc, pm, an, ct, osl, g, lk, hcd, F.kp, b⟩
  · exact absurd rfl e
theorem dfM_of (F : FunD K m q (defArgs st) (defBody st) (defScope st) [] [] f fd) (c : Cls K C) (h : Meth K C m f) (hb : Bnd m q st ps) : DfM K C m q st ps := by
  have b : Binds K fd ps [] := F.bindsN hb
  obtain ⟨oc, od, dV, kV, doc, pm, an, cdv, ct, osl, rfl, lk, hcd, hD, hK⟩ := F.ex
  rcases hD with ⟨_, rfl⟩ | ⟨e, _⟩
  · exact ⟨c, f, oc, od, kV, doc, pm, an, cdv, ct, osl, h, lk, hcd, b⟩
  · exact absurd rfl e
theorem dfF_of (F : FunD K m q (defArgs st) (defBody st) (defScope st) [] [] f fd) (hb : Bnd m q st ps) : DfF K f m q st ps := by
  have b : Binds K fd ps [] := F.bindsN hb
  obtain ⟨oc, od, dV, kV, doc, pm, an, cdv, ct, osl, rfl, lk, hcd, hD, hK⟩ := F.ex
  rcases hD with ⟨_, rfl⟩ | ⟨e, _⟩
  · exact ⟨oc, od, kV, doc, pm, an, cdv, ct, osl, lk, hcd, b⟩
  · exact absurd rfl e
theorem exAt {K : PySem.W.Frag} {l : List Bool} (h : l.all id = true) (i : Nat) {b : Bool} (e : l[i]? = some b) : b = true := List.all_eq_true.mp h b (List.mem_of_getElem? e)
theorem supB_ok (h : supB K m = true) : PySem.W.ks_superIn K (aG K) (aG K) m = some (some (.ref (ma K (aT K) m))) ∧ PySem.W.typeIn K (.ref (ma K (aT K) m)) = some (.type "function") ∧ PySem.W.fnIn K (ma K (aT K) m) = true := by
  obtain ⟨h1, h2⟩ := ba h
  obtain ⟨h3, h4⟩ := ba h2
  exact ⟨He.eqO_ok h1, of_decide_eq_true h3, h4⟩
end
section
variable {K : PySem.W.Frag} {mg : Str → Option Value} {h : Heap}
abbrev Says (h : Heap) (K : PySem.W.Frag) : Prop := SaysS faS fnS clS tJ exS h K
theorem bt_of (X : K.In h) (G : h.Ns mainGlobals mg) (c : Says h K) : Bt mg where
  n_len := He.free_ok X G (c.d.fact 48 (f := .free "len") rfl)
  n_sorted := He.free_ok X G (c.d.fact 49 (f := .free "sorted") rfl)
  n_isinstance := He.free_ok X G (c.d.fact 50 (f := .free "isinstance") rfl)
  n_tuple := He.free_ok X G (c.d.fact 51 (f := .free "tuple") rfl)
  n_list := He.free_ok X G (c.d.fact 52 (f := .free "list") rfl)
  n_int := He.free_ok X G (c.d.fact 53 (f := .free "int") rfl)
  n_bool := He.free_ok X G (c.d.fact 54 (f := .free "bool") rfl)
  n_str := He.free_ok X G (c.d.fact 55 (f := .free "str") rfl)
  n_abs := He.free_ok X G (c.d.fact 56 (f := .free "abs") rfl)
  n_sum := He.free_ok X G (c.d.fact 57 (f := .free "sum") rfl)
  n_all := He.free_ok X G (c.d.fact 58 (f := .free "all") rfl)
  n_any := He.free_ok X G (c.d.fact 59 (f := .free "any") rfl)
  n_range := He.free_ok X G (c.d.fact 60 (f := .free "range") rfl)
  n_enumerate := He.free_ok X G (c.d.fact 61 (f := .free "enumerate") rfl)
  n_zip := He.free_ok X G (c.d.fact 62 (f := .free "zip") rfl)
  n_reversed := He.free_ok X G (c.d.fact 63 (f := .free "reversed") rfl)
  n_super := He.free_ok X G (c.d.fact 64 (f := .free "super") rfl)
  g_LAST_INDEX := He.int_ok X G (c.d.fact 65 (f := .int "LAST_INDEX" 5) rfl)
  g_LAST_HOUR := He.int_ok X G (c.d.fact 66 (f := .int "LAST_HOUR" 8) rfl)
  g_MOST_TOLL := He.int_ok X G (c.d.fact 67 (f := .int "MOST_TOLL" 99) rfl)
  g_GREATEST_charts := He.int_ok X G (c.d.fact 68 (f := .int "GREATEST_charts" 99) rfl)
theorem ex1 (c : Says h K) : (exL1 K).all id = true := (ba c.more).1
theorem ex2 (c : Says h K) : (exL2 K).all id = true := (ba (ba c.more).2).1
theorem ex3 (c : Says h K) : (exL3 K).all id = true := (ba (ba c.more).2).2
theorem kc_of (X : K.In h) (G : h.Ns mainGlobals mg) (c : Says h K) : Kc K mg (wdK K) where
  g_DIRECTIONS := (He.glo_ok X G (c.d.fact 40 (f := .glo "DIRECTIONS") rfl))
  dir := ⟨_, rfl, tupA_ok (exAt (K := K) (ex1 c) 0 rfl)⟩
  g_FORWARD := (He.glo_ok X G (c.d.fact 41 (f := .glo "FORWARD") rfl))
  fwd := tupA_ok (exAt (K := K) (ex1 c) 1 rfl)
  fw0 := tupA_ok (exAt (K := K) (ex1 c) 2 rfl)
  fw1 := tupA_ok (exAt (K := K) (ex1 c) 3 rfl)
  fw2 := tupA_ok (exAt (K := K) (ex1 c) 4 rfl)
  fw3 := tupA_ok (exAt (K := K) (ex1 c) 5 rfl)
  fw4 := tupA_ok (exAt (K := K) (ex1 c) 6 rfl)
  g_Chart := (He.glo_ok X G (c.d.fact 42 (f := .glo "Chart") rfl))
  rdC := ⟨exAt (K := K) (ex1 c) 7 rfl, He.eqO_ok (exAt (K := K) (ex1 c) 8 rfl)⟩
  rows := clsInt_ok (exAt (K := K) (ex1 c) 9 rfl)
  hours := clsInt_ok (exAt (K := K) (ex1 c) 10 rfl)
  clsC := (He.cls_ok (c.d.fact 69 (f := .cls "Chart") rfl))
  clsT := (He.cls_ok (c.d.fact 70 (f := .cls "Trip") rfl))
  clsG := (He.cls_ok (c.d.fact 71 (f := .cls "GuardedTrip") rfl))
  noC := fun f hf => by
    rcases List.mem_cons.mp hf with rfl | hf
    · exact He.noat_ok (c.d.fact 72 (f := .noat "Chart" "top") rfl)
    rcases List.mem_cons.mp hf with rfl | hf
    · exact He.noat_ok (c.d.fact 73 (f := .noat "Chart" "last") rfl)
    rcases List.mem_cons.mp hf with rfl | hf
    · exact He.noat_ok (c.d.fact 74 (f := .noat "Chart" "held_rows") rfl)
    rcases List.mem_cons.mp hf with rfl | hf
    · exact He.noat_ok (c.d.fact 75 (f := .noat "Chart" "held_winds") rfl)
    rcases List.mem_cons.mp hf with rfl | hf
    · exact He.noat_ok (c.d.fact 76 (f := .noat "Chart" "drags") rfl)
    cases hf
  noT := fun f hf => by
    rcases List.mem_cons.mp hf with rfl | hf
    · exact He.noat_ok (c.d.fact 77 (f := .noat "Trip" "chart") rfl)
    rcases List.mem_cons.mp hf with rfl | hf
    · exact He.noat_ok (c.d.fact 78 (f := .noat "Trip" "start") rfl)
    rcases List.mem_cons.mp hf with rfl | hf
    · exact He.noat_ok (c.d.fact 79 (f := .noat "Trip" "goal") rfl)
    rcases List.mem_cons.mp hf with rfl | hf
    · exact He.noat_ok (c.d.fact 80 (f := .noat "Trip" "first") rfl)
    rcases List.mem_cons.mp hf with rfl | hf
    · exact He.noat_ok (c.d.fact 81 (f := .noat "Trip" "last") rfl)
    rcases List.mem_cons.mp hf with rfl | hf
    · exact He.noat_ok (c.d.fact 82 (f := .noat "Trip" "_barred") rfl)
    cases hf
  noG := fun f hf => by
    rcases List.mem_cons.mp hf with rfl | hf
    · exact He.noat_ok (c.d.fact 83 (f := .noat "GuardedTrip" "chart") rfl)
    rcases List.mem_cons.mp hf with rfl | hf
    · exact He.noat_ok (c.d.fact 84 (f := .noat "GuardedTrip" "start") rfl)
    rcases List.mem_cons.mp hf with rfl | hf
    · exact He.noat_ok (c.d.fact 85 (f := .noat "GuardedTrip" "goal") rfl)
    rcases List.mem_cons.mp hf with rfl | hf
    · exact He.noat_ok (c.d.fact 86 (f := .noat "GuardedTrip" "first") rfl)
    rcases List.mem_cons.mp hf with rfl | hf
    · exact He.noat_ok (c.d.fact 87 (f := .noat "GuardedTrip" "last") rfl)
    rcases List.mem_cons.mp hf with rfl | hf
    · exact He.noat_ok (c.d.fact 88 (f := .noat "GuardedTrip" "_barred") rfl)
    cases hf
  neTG := of_decide_eq_true (exAt (K := K) (ex1 c) 11 rfl)
theorem wx_of (X : K.In h) (G : h.Ns mainGlobals mg) (c : Says h K) : Wx K mg (aW K) (ma K (aW K) "__init__") (ga K "SkyError") (ga K "Missing") where
  ex := ⟨oexB_ok (exAt (K := K) (ex2 c) 0 rfl), He.eqO_ok (exAt (K := K) (ex2 c) 1 rfl), of_decide_eq_true (exAt (K := K) (ex2 c) 2 rfl), of_decide_eq_true (exAt (K := K) (ex2 c) 3 rfl), exAt (K := K) (ex2 c) 4 rfl⟩
  gC := (He.glo_ok X G (c.d.fact 45 (f := .glo "InvalidWay") rfl))
  iC := He.eqO_ok (exAt (K := K) (ex2 c) 5 rfl)
  tI := of_decide_eq_true (exAt (K := K) (ex2 c) 6 rfl)
  nCode := He.eqO_ok (exAt (K := K) (ex2 c) 7 rfl)
  nAt := He.eqO_ok (exAt (K := K) (ex2 c) 8 rfl)
  xf := xfB_ok (exAt (K := K) (ex2 c) 9 rfl)
  gS := (He.glo_ok X G (c.d.fact 46 (f := .glo "SkyError") rfl))
  gM := (He.glo_ok X G (c.d.fact 47 (f := .glo "Missing") rfl))
  exm := of_decide_eq_true (exAt (K := K) (ex2 c) 10 rfl)
theorem df_start_place (X : K.In h) (G : h.Ns mainGlobals mg) (c : Says h K) : Dfn K mg "start_place" s_start_place ["trip"] := by
  obtain ⟨fd, F⟩ := c.d.def_ 0 (d := plD "start_place" s_start_place) rfl
  exact dfn_of F (He.glo_ok X G (c.d.fact 0 (f := .glo "start_place") rfl)) (fun _ _ _ _ _ _ us hl => match us, hl with | [_], _ => rfl)
theorem df_goal_place (X : K.In h) (G : h.Ns mainGlobals mg) (c : Says h K) : Dfn K mg "goal_place" s_goal_place ["trip"] := by
  obtain ⟨fd, F⟩ := c.d.def_ 1 (d := plD "goal_place" s_goal_place) rfl
  exact dfn_of F (He.glo_ok X G (c.d.fact 1 (f := .glo "goal_place") rfl)) (fun _ _ _ _ _ _ us hl => match us, hl with | [_], _ => rfl)
theorem df_reached_moves (X : K.In h) (G : h.Ns mainGlobals mg) (c : Says h K) : Dfn K mg "reached_moves" s_reached_moves ["trip"] := by
  obtain ⟨fd, F⟩ := c.d.def_ 2 (d := plD "reached_moves" s_reached_moves) rfl
  exact dfn_of F (He.glo_ok X G (c.d.fact 2 (f := .glo "reached_moves") rfl)) (fun _ _ _ _ _ _ us hl => match us, hl with | [_], _ => rfl)
theorem df_way_moves (X : K.In h) (G : h.Ns mainGlobals mg) (c : Says h K) : Dfn K mg "way_moves" s_way_moves ["trip"] := by
  obtain ⟨fd, F⟩ := c.d.def_ 3 (d := plD "way_moves" s_way_moves) rfl
  exact dfn_of F (He.glo_ok X G (c.d.fact 3 (f := .glo "way_moves") rfl)) (fun _ _ _ _ _ _ us hl => match us, hl with | [_], _ => rfl)
theorem df_is_number (X : K.In h) (G : h.Ns mainGlobals mg) (c : Says h K) : Dfn K mg "is_number" s_is_number ["value", "least", "most"] := by
  obtain ⟨fd, F⟩ := c.d.def_ 4 (d := plD "is_number" s_is_number) rfl
  exact dfn_of F (He.glo_ok X G (c.d.fact 4 (f := .glo "is_number") rfl)) (fun _ _ _ _ _ _ us hl => match us, hl with | [_, _, _], _ => rfl)
theorem df_is_cell (X : K.In h) (G : h.Ns mainGlobals mg) (c : Says h K) : Dfn K mg "is_cell" s_is_cell ["value"] := by
  obtain ⟨fd, F⟩ := c.d.def_ 5 (d := plD "is_cell" s_is_cell) rfl
  exact dfn_of F (He.glo_ok X G (c.d.fact 5 (f := .glo "is_cell") rfl)) (fun _ _ _ _ _ _ us hl => match us, hl with | [_], _ => rfl)
theorem df_is_place (X : K.In h) (G : h.Ns mainGlobals mg) (c : Says h K) : Dfn K mg "is_place" s_is_place ["value"] := by
  obtain ⟨fd, F⟩ := c.d.def_ 6 (d := plD "is_place" s_is_place) rfl
  exact dfn_of F (He.glo_ok X G (c.d.fact 6 (f := .glo "is_place") rfl)) (fun _ _ _ _ _ _ us hl => match us, hl with | [_], _ => rfl)
theorem df_follows (X : K.In h) (G : h.Ns mainGlobals mg) (c : Says h K) : Dfn K mg "follows" s_follows ["place", "other"] := by
  obtain ⟨fd, F⟩ := c.d.def_ 7 (d := plD "follows" s_follows) rfl
  exact dfn_of F (He.glo_ok X G (c.d.fact 7 (f := .glo "follows") rfl)) (fun _ _ _ _ _ _ us hl => match us, hl with | [_, _], _ => rfl)
theorem df_check_way (X : K.In h) (G : h.Ns mainGlobals mg) (c : Says h K) : Dfn K mg "check_way" s_check_way ["chart", "way"] := by
  obtain ⟨fd, F⟩ := c.d.def_ 8 (d := plD "check_way" s_check_way) rfl
  exact dfn_of F (He.glo_ok X G (c.d.fact 8 (f := .glo "check_way") rfl)) (fun _ _ _ _ _ _ us hl => match us, hl with | [_, _], _ => rfl)
theorem df_is_way (X : K.In h) (G : h.Ns mainGlobals mg) (c : Says h K) : Dfn K mg "is_way" s_is_way ["trip", "value"] := by
  obtain ⟨fd, F⟩ := c.d.def_ 9 (d := plD "is_way" s_is_way) rfl
  exact dfn_of F (He.glo_ok X G (c.d.fact 9 (f := .glo "is_way") rfl)) (fun _ _ _ _ _ _ us hl => match us, hl with | [_, _], _ => rfl)
theorem df_ways (X : K.In h) (G : h.Ns mainGlobals mg) (c : Says h K) : Dfn K mg "ways" s_ways ["trip"] := by
  obtain ⟨fd, F⟩ := c.d.def_ 10 (d := plD "ways" s_ways) rfl
  exact dfn_of F (He.glo_ok X G (c.d.fact 10 (f := .glo "ways") rfl)) (fun _ _ _ _ _ _ us hl => match us, hl with | [_], _ => rfl)
theorem df_many_ways (X : K.In h) (G : h.Ns mainGlobals mg) (c : Says h K) : Dfn K mg "many_ways" s_many_ways ["trip"] := by
  obtain ⟨fd, F⟩ := c.d.def_ 11 (d := plD "many_ways" s_many_ways) rfl
  exact dfn_of F (He.glo_ok X G (c.d.fact 11 (f := .glo "many_ways") rfl)) (fun _ _ _ _ _ _ us hl => match us, hl with | [_], _ => rfl)
theorem df_has_water (X : K.In h) (G : h.Ns mainGlobals mg) (c : Says h K) : Dfn K mg "has_water" s_has_water ["rows"] := by
  obtain ⟨fd, F⟩ := c.d.def_ 12 (d := plD "has_water" s_has_water) rfl
  exact dfn_of F (He.glo_ok X G (c.d.fact 12 (f := .glo "has_water") rfl)) (fun _ _ _ _ _ _ us hl => match us, hl with | [_], _ => rfl)
theorem df_is_wind (X : K.In h) (G : h.Ns mainGlobals mg) (c : Says h K) : Dfn K mg "is_wind" s_is_wind ["value"] := by
  obtain ⟨fd, F⟩ := c.d.def_ 13 (d := plD "is_wind" s_is_wind) rfl
  exact dfn_of F (He.glo_ok X G (c.d.fact 13 (f := .glo "is_wind") rfl)) (fun _ _ _ _ _ _ us hl => match us, hl with | [_], _ => rfl)
theorem df_is_listed (X : K.In h) (G : h.Ns mainGlobals mg) (c : Says h K) : Dfn K mg "is_listed" s_is_listed ["value", "least", "most"] := by
  obtain ⟨fd, F⟩ := c.d.def_ 14 (d := plD "is_listed" s_is_listed) rfl
  exact dfn_of F (He.glo_ok X G (c.d.fact 14 (f := .glo "is_listed") rfl)) (fun _ _ _ _ _ _ us hl => match us, hl with | [_, _, _], _ => rfl)
theorem df_check_rows (X : K.In h) (G : h.Ns mainGlobals mg) (c : Says h K) : Dfn K mg "check_rows" s_check_rows ["rows"] := by
  obtain ⟨fd, F⟩ := c.d.def_ 15 (d := plD "check_rows" s_check_rows) rfl
  exact dfn_of F (He.glo_ok X G (c.d.fact 15 (f := .glo "check_rows") rfl)) (fun _ _ _ _ _ _ us hl => match us, hl with | [_], _ => rfl)
theorem df_check_winds (X : K.In h) (G : h.Ns mainGlobals mg) (c : Says h K) : Dfn K mg "check_winds" s_check_winds ["winds"] := by
  obtain ⟨fd, F⟩ := c.d.def_ 16 (d := plD "check_winds" s_check_winds) rfl
  exact dfn_of F (He.glo_ok X G (c.d.fact 16 (f := .glo "check_winds") rfl)) (fun _ _ _ _ _ _ us hl => match us, hl with | [_], _ => rfl)
theorem df_law_bag (X : K.In h) (G : h.Ns mainGlobals mg) (c : Says h K) : Dfn K mg "_law_bag" s__law_bag ["_law_script"] := by
  obtain ⟨fd, F⟩ := c.d.def_ 17 (d := plD "_law_bag" s__law_bag) rfl
  exact dfn_of F (He.glo_ok X G (c.d.fact 17 (f := .glo "_law_bag") rfl)) (fun _ _ _ _ _ _ us hl => match us, hl with | [_], _ => rfl)
theorem df_law_pull (X : K.In h) (G : h.Ns mainGlobals mg) (c : Says h K) : Dfn K mg "_law_pull" s__law_pull ["_law_bag_here", "_law_many"] := by
  obtain ⟨fd, F⟩ := c.d.def_ 18 (d := plD "_law_pull" s__law_pull) rfl
  exact dfn_of F (He.glo_ok X G (c.d.fact 18 (f := .glo "_law_pull") rfl)) (fun _ _ _ _ _ _ us hl => match us, hl with | [_, _], _ => rfl)
theorem df_law_of (X : K.In h) (G : h.Ns mainGlobals mg) (c : Says h K) : Dfn K mg "_law_of" s__law_of ["_law_bag_here", "_law_things"] := by
  obtain ⟨fd, F⟩ := c.d.def_ 19 (d := plD "_law_of" s__law_of) rfl
  exact dfn_of F (He.glo_ok X G (c.d.fact 19 (f := .glo "_law_of") rfl)) (fun _ _ _ _ _ _ us hl => match us, hl with | [_, _], _ => rfl)
theorem df_law_chosen (X : K.In h) (G : h.Ns mainGlobals mg) (c : Says h K) : Dfn K mg "_law_chosen" s__law_chosen ["_law_bag_here", "_law_things", "_law_share"] := by
  obtain ⟨fd, F⟩ := c.d.def_ 20 (d := plD "_law_chosen" s__law_chosen) rfl
  exact dfn_of F (He.glo_ok X G (c.d.fact 20 (f := .glo "_law_chosen") rfl)) (fun _ _ _ _ _ _ us hl => match us, hl with | [_, _, _], _ => rfl)
theorem df_law_same (X : K.In h) (G : h.Ns mainGlobals mg) (c : Says h K) : Dfn K mg "_law_same" s__law_same ["_law_found", "_law_due"] := by
  obtain ⟨fd, F⟩ := c.d.def_ 21 (d := plD "_law_same" s__law_same) rfl
  exact dfn_of F (He.glo_ok X G (c.d.fact 21 (f := .glo "_law_same") rfl)) (fun _ _ _ _ _ _ us hl => match us, hl with | [_, _], _ => rfl)
theorem df_law_field (X : K.In h) (G : h.Ns mainGlobals mg) (c : Says h K) : Dfn K mg "_law_field" s__law_field ["_law_e"] := by
  obtain ⟨fd, F⟩ := c.d.def_ 22 (d := plD "_law_field" s__law_field) rfl
  exact dfn_of F (He.glo_ok X G (c.d.fact 22 (f := .glo "_law_field") rfl)) (fun _ _ _ _ _ _ us hl => match us, hl with | [_], _ => rfl)
theorem df_law_why (X : K.In h) (G : h.Ns mainGlobals mg) (c : Says h K) : Dfn K mg "_law_why" s__law_why ["_law_ask"] := by
  obtain ⟨fd, F⟩ := c.d.def_ 23 (d := plD "_law_why" s__law_why) rfl
  exact dfn_of F (He.glo_ok X G (c.d.fact 23 (f := .glo "_law_why") rfl)) (fun _ _ _ _ _ _ us hl => match us, hl with | [_], _ => rfl)
theorem df_law_refused (X : K.In h) (G : h.Ns mainGlobals mg) (c : Says h K) : Dfn K mg "_law_refused" s__law_refused ["_law_ask"] := by
  obtain ⟨fd, F⟩ := c.d.def_ 24 (d := plD "_law_refused" s__law_refused) rfl
  exact dfn_of F (He.glo_ok X G (c.d.fact 24 (f := .glo "_law_refused") rfl)) (fun _ _ _ _ _ _ us hl => match us, hl with | [_], _ => rfl)
theorem df_law_cells (X : K.In h) (G : h.Ns mainGlobals mg) (c : Says h K) : Dfn K mg "_law_cells" s__law_cells ["_law_sea_here"] := by
  obtain ⟨fd, F⟩ := c.d.def_ 25 (d := plD "_law_cells" s__law_cells) rfl
  exact dfn_of F (He.glo_ok X G (c.d.fact 25 (f := .glo "_law_cells") rfl)) (fun _ _ _ _ _ _ us hl => match us, hl with | [_], _ => rfl)
theorem df_law_spots (X : K.In h) (G : h.Ns mainGlobals mg) (c : Says h K) : Dfn K mg "_law_spots" s__law_spots ["_law_sea_here"] := by
  obtain ⟨fd, F⟩ := c.d.def_ 26 (d := plD "_law_spots" s__law_spots) rfl
  exact dfn_of F (He.glo_ok X G (c.d.fact 26 (f := .glo "_law_spots") rfl)) (fun _ _ _ _ _ _ us hl => match us, hl with | [_], _ => rfl)
theorem df_law_field_of (X : K.In h) (G : h.Ns mainGlobals mg) (c : Says h K) : Dfn K mg "_law_field_of" s__law_field_of ["_law_bag_here", "_law_tall", "_law_wide"] := by
  obtain ⟨fd, F⟩ := c.d.def_ 27 (d := plD "_law_field_of" s__law_field_of) rfl
  exact dfn_of F (He.glo_ok X G (c.d.fact 27 (f := .glo "_law_field_of") rfl)) (fun _ _ _ _ _ _ us hl => match us, hl with | [_, _, _], _ => rfl)
theorem df_law_gusts (X : K.In h) (G : h.Ns mainGlobals mg) (c : Says h K) : Dfn K mg "_law_gusts" s__law_gusts ["_law_bag_here", "_law_many"] := by
  obtain ⟨fd, F⟩ := c.d.def_ 28 (d := plD "_law_gusts" s__law_gusts) rfl
  exact dfn_of F (He.glo_ok X G (c.d.fact 28 (f := .glo "_law_gusts") rfl)) (fun _ _ _ _ _ _ us hl => match us, hl with | [_, _], _ => rfl)
theorem df_law_sea (X : K.In h) (G : h.Ns mainGlobals mg) (c : Says h K) : Dfn K mg "_law_sea" s__law_sea ["_law_bag_here", "_law_hours"] := by
  obtain ⟨fd, F⟩ := c.d.def_ 29 (d := plD "_law_sea" s__law_sea) rfl
  exact dfn_of F (He.glo_ok X G (c.d.fact 29 (f := .glo "_law_sea") rfl)) (fun _ _ _ _ _ _ us hl => match us, hl with | [_, _], _ => rfl)
theorem df_law_moves (X : K.In h) (G : h.Ns mainGlobals mg) (c : Says h K) : Dfn K mg "_law_moves" s__law_moves [] := by
  obtain ⟨fd, F⟩ := c.d.def_ 30 (d := plD "_law_moves" s__law_moves) rfl
  exact dfn_of F (He.glo_ok X G (c.d.fact 30 (f := .glo "_law_moves") rfl)) (fun _ _ _ _ _ _ us hl => match us, hl with | [], _ => rfl)
theorem df_law_sheet (X : K.In h) (G : h.Ns mainGlobals mg) (c : Says h K) : Dfn K mg "_law_sheet" s__law_sheet ["_law_sea_here"] := by
  obtain ⟨fd, F⟩ := c.d.def_ 31 (d := plD "_law_sheet" s__law_sheet) rfl
  exact dfn_of F (He.glo_ok X G (c.d.fact 31 (f := .glo "_law_sheet") rfl)) (fun _ _ _ _ _ _ us hl => match us, hl with | [_], _ => rfl)
theorem df_law_near (X : K.In h) (G : h.Ns mainGlobals mg) (c : Says h K) : Dfn K mg "_law_near" s__law_near ["_law_sea_here", "_law_spot"] := by
  obtain ⟨fd, F⟩ := c.d.def_ 32 (d := plD "_law_near" s__law_near) rfl
  exact dfn_of F (He.glo_ok X G (c.d.fact 32 (f := .glo "_law_near") rfl)) (fun _ _ _ _ _ _ us hl => match us, hl with | [_, _], _ => rfl)
theorem df_law_tracks (X : K.In h) (G : h.Ns mainGlobals mg) (c : Says h K) : Dfn K mg "_law_tracks" s__law_tracks ["_law_sea_here", "_law_tour_here", "_law_end"] := by
  obtain ⟨fd, F⟩ := c.d.def_ 33 (d := plD "_law_tracks" s__law_tracks) rfl
  exact dfn_of F (He.glo_ok X G (c.d.fact 33 (f := .glo "_law_tracks") rfl)) (fun _ _ _ _ _ _ us hl => match us, hl with | [_, _, _], _ => rfl)
theorem df_law_tour (X : K.In h) (G : h.Ns mainGlobals mg) (c : Says h K) : Dfn K mg "_law_tour" s__law_tour ["_law_bag_here", "_law_sea_here", "_law_share"] := by
  obtain ⟨fd, F⟩ := c.d.def_ 34 (d := plD "_law_tour" s__law_tour) rfl
  exact dfn_of F (He.glo_ok X G (c.d.fact 34 (f := .glo "_law_tour") rfl)) (fun _ _ _ _ _ _ us hl => match us, hl with | [_, _, _], _ => rfl)
theorem df_law_cruise (X : K.In h) (G : h.Ns mainGlobals mg) (c : Says h K) : Dfn K mg "_law_cruise" s__law_cruise ["_law_sea_here", "_law_tour_here"] := by
  obtain ⟨fd, F⟩ := c.d.def_ 35 (d := plD "_law_cruise" s__law_cruise) rfl
  exact dfn_of F (He.glo_ok X G (c.d.fact 35 (f := .glo "_law_cruise") rfl)) (fun _ _ _ _ _ _ us hl => match us, hl with | [_, _], _ => rfl)
theorem df_law_bent_track (X : K.In h) (G : h.Ns mainGlobals mg) (c : Says h K) : Dfn K mg "_law_bent_track" s__law_bent_track ["_law_bag_here", "_law_sea_here", "_law_track"] := by
  obtain ⟨fd, F⟩ := c.d.def_ 36 (d := plD "_law_bent_track" s__law_bent_track) rfl
  exact dfn_of F (He.glo_ok X G (c.d.fact 36 (f := .glo "_law_bent_track") rfl)) (fun _ _ _ _ _ _ us hl => match us, hl with | [_, _, _], _ => rfl)
theorem df_law_wrong_at (X : K.In h) (G : h.Ns mainGlobals mg) (c : Says h K) : Dfn K mg "_law_wrong_at" s__law_wrong_at ["_law_sea_here", "_law_value_z"] := by
  obtain ⟨fd, F⟩ := c.d.def_ 37 (d := plD "_law_wrong_at" s__law_wrong_at) rfl
  exact dfn_of F (He.glo_ok X G (c.d.fact 37 (f := .glo "_law_wrong_at") rfl)) (fun _ _ _ _ _ _ us hl => match us, hl with | [_, _], _ => rfl)
theorem df_law_judged_so (X : K.In h) (G : h.Ns mainGlobals mg) (c : Says h K) : DfnC K mg "_law_judged_so" s__law_judged_so ["_law_bag_here", "_law_sea_here", "_law_cruise_here", "_law_tour_here", "_law_tracks_here", "_law_track"] (He.codeOf K tJ) := by
  obtain ⟨fd, F⟩ := c.d.def_ 38 (d := plD "_law_judged_so" s__law_judged_so) rfl
  exact dfnC_of F (He.glo_ok X G (c.d.fact 38 (f := .glo "_law_judged_so") rfl)) (fun _ _ _ _ _ _ us hl => match us, hl with | [_, _, _, _, _, _], _ => rfl)
theorem df_Chart_check_water (c : Says h K) : DfM K (aC K) "check_water" "Chart.check_water" s_Chart_check_water ["self", "cell"] := by
  obtain ⟨fd, F⟩ := c.d.def_ 40 (d := meD "Chart" "check_water" "Chart.check_water" s_Chart_check_water [] []) rfl
  exact dfM_of F (He.cls_ok (c.d.fact 69 (f := .cls "Chart") rfl)) (He.meth_ok (c.d.fact 89 (f := .meth "Chart" "check_water") rfl)) (fun _ _ _ _ _ _ us hl => match us, hl with | [_, _], _ => rfl)
theorem df_Chart_drag (c : Says h K) : DfM K (aC K) "drag" "Chart.drag" s_Chart_drag ["self", "cell"] := by
  obtain ⟨fd, F⟩ := c.d.def_ 41 (d := meD "Chart" "drag" "Chart.drag" s_Chart_drag [] []) rfl
  exact dfM_of F (He.cls_ok (c.d.fact 69 (f := .cls "Chart") rfl)) (He.meth_ok (c.d.fact 90 (f := .meth "Chart" "drag") rfl)) (fun _ _ _ _ _ _ us hl => match us, hl with | [_, _], _ => rfl)
theorem df_Chart___contains__ (c : Says h K) : DfM K (aC K) "__contains__" "Chart.__contains__" s_Chart___contains__ ["self", "value"] := by
  obtain ⟨fd, F⟩ := c.d.def_ 42 (d := meD "Chart" "__contains__" "Chart.__contains__" s_Chart___contains__ [] []) rfl
  exact dfM_of F (He.cls_ok (c.d.fact 69 (f := .cls "Chart") rfl)) (He.meth_ok (c.d.fact 91 (f := .meth "Chart" "__contains__") rfl)) (fun _ _ _ _ _ _ us hl => match us, hl with | [_, _], _ => rfl)
theorem df_Chart_neighbours (c : Says h K) : DfM K (aC K) "neighbours" "Chart.neighbours" s_Chart_neighbours ["self", "cell"] := by
  obtain ⟨fd, F⟩ := c.d.def_ 43 (d := meD "Chart" "neighbours" "Chart.neighbours" s_Chart_neighbours [] []) rfl
  exact dfM_of F (He.cls_ok (c.d.fact 69 (f := .cls "Chart") rfl)) (He.meth_ok (c.d.fact 92 (f := .meth "Chart" "neighbours") rfl)) (fun _ _ _ _ _ _ us hl => match us, hl with | [_, _], _ => rfl)
theorem df_Trip_next_places (c : Says h K) : DfF K (ma K (ga K "Trip") "next_places") "next_places" "Trip.next_places" s_Trip_next_places ["self", "place"] := by
  obtain ⟨fd, F⟩ := c.d.def_ 44 (d := meD "Trip" "next_places" "Trip.next_places" s_Trip_next_places [] []) rfl
  exact dfF_of F (fun _ _ _ _ _ _ us hl => match us, hl with | [_, _], _ => rfl)
theorem df_Trip_may_be (c : Says h K) : DfF K (ma K (ga K "Trip") "may_be") "may_be" "Trip.may_be" s_Trip_may_be ["self", "place"] := by
  obtain ⟨fd, F⟩ := c.d.def_ 45 (d := meD "Trip" "may_be" "Trip.may_be" s_Trip_may_be [] []) rfl
  exact dfF_of F (fun _ _ _ _ _ _ us hl => match us, hl with | [_, _], _ => rfl)
theorem df_InvalidWay___init__ (c : Says h K) : DfF K (ma K (ga K "InvalidWay") "__init__") "__init__" "InvalidWay.__init__" s_InvalidWay___init__ ["self", "at"] := by
  obtain ⟨fd, F⟩ := c.d.def_ 46 (d := meD "InvalidWay" "__init__" "InvalidWay.__init__" s_InvalidWay___init__ [] []) rfl
  exact dfF_of F (fun _ _ _ _ _ _ us hl => match us, hl with | [_, _], _ => rfl)
theorem df_Chart_init (X : K.In h) (G : h.Ns mainGlobals mg) (c : Says h K) : DfI K mg "Chart" (aC K) "Chart.__init__" s_Chart___init__ [.ref (He.dflAt ("Chart", some "__init__") 0 K)] [("top", .int 9)] := by
  obtain ⟨fd, F⟩ := c.d.def_ 47 (d := meD "Chart" "__init__" "Chart.__init__" s_Chart___init__ [.adr (He.dflAt ("Chart", some "__init__") 0)] [("top", .int 9)]) rfl
  exact ⟨(He.cls_ok (c.d.fact 69 (f := .cls "Chart") rfl)), (He.glo_ok X G (c.d.fact 42 (f := .glo "Chart") rfl)), _, fd, (He.mkr_ok (c.d.fact 97 (f := .mkr "Chart") rfl)), F⟩
theorem df_Trip_init (c : Says h K) : ∃ fd, FunD K "__init__" "Trip.__init__" (defArgs s_Trip___init__) (defBody s_Trip___init__) (defScope s_Trip___init__) [] [("first", .int 0), ("last", .non)] (ma K (aT K) "__init__") fd := c.d.def_ 48 (d := meD "Trip" "__init__" "Trip.__init__" s_Trip___init__ [] [("first", .int 0), ("last", .non)]) rfl
theorem df_GuardedTrip_next_places (c : Says h K) : ∃ fd, DfS PW K (ma K (aG K) "next_places") "next_places" "GuardedTrip.next_places" (defArgs s_GuardedTrip_next_places) (defBody s_GuardedTrip_next_places) (defScope s_GuardedTrip_next_places) .none (aG K) fd :=
  clo_dfS (d := ⟨"GuardedTrip", "next_places", "GuardedTrip.next_places", s_GuardedTrip_next_places⟩) (c.cloAt 0 rfl) (exAt (K := K) (ex3 c) 6 rfl) (ar := ((defArgs s_GuardedTrip_next_places).args.getD 0 ⟨"", none, ⟨0, 0, 0, 0⟩⟩)) (by rfl) (by rfl) (of_decide_eq_true (exAt (K := K) (ex3 c) 3 rfl)) (exAt (K := K) (ex3 c) 4 rfl) (He.eqO_ok (exAt (K := K) (ex3 c) 5 rfl)) (by decide +kernel)
theorem df_GuardedTrip_may_be (c : Says h K) : ∃ fd, DfS PW K (ma K (aG K) "may_be") "may_be" "GuardedTrip.may_be" (defArgs s_GuardedTrip_may_be) (defBody s_GuardedTrip_may_be) (defScope s_GuardedTrip_may_be) .none (aG K) fd :=
  clo_dfS (d := ⟨"GuardedTrip", "may_be", "GuardedTrip.may_be", s_GuardedTrip_may_be⟩) (c.cloAt 1 rfl) (exAt (K := K) (ex3 c) 7 rfl) (ar := ((defArgs s_GuardedTrip_may_be).args.getD 0 ⟨"", none, ⟨0, 0, 0, 0⟩⟩)) (by rfl) (by rfl) (of_decide_eq_true (exAt (K := K) (ex3 c) 3 rfl)) (exAt (K := K) (ex3 c) 4 rfl) (He.eqO_ok (exAt (K := K) (ex3 c) 5 rfl)) (by decide +kernel)
theorem df_GuardedTrip___init__ (c : Says h K) : ∃ fd, DfS PW K (ma K (aG K) "__init__") "__init__" "GuardedTrip.__init__" (defArgs s_GuardedTrip___init__) (defBody s_GuardedTrip___init__) (defScope s_GuardedTrip___init__) .none (aG K) fd :=
  clo_dfS (d := ⟨"GuardedTrip", "__init__", "GuardedTrip.__init__", s_GuardedTrip___init__⟩) (c.cloAt 2 rfl) (exAt (K := K) (ex3 c) 8 rfl) (ar := ((defArgs s_GuardedTrip___init__).args.getD 0 ⟨"", none, ⟨0, 0, 0, 0⟩⟩)) (by rfl) (by rfl) (of_decide_eq_true (exAt (K := K) (ex3 c) 3 rfl)) (exAt (K := K) (ex3 c) 4 rfl) (He.eqO_ok (exAt (K := K) (ex3 c) 5 rfl)) (by decide +kernel)
end
end Sky

set_option Elab.async false
set_option linter.all false
set_option maxRecDepth 100000
set_option maxHeartbeats 4000000
/-! All defs together; the law at the head. -/
namespace Sky
open PySem PySem.Spec PyProof.Rows L2
open He (ga ma fAd ba)
section
variable {K : PySem.W.Frag} {mg : Str → Option Value} {h base : Heap} {w : World} {W : Wd} {f D : Addr} {fd : FuncData}
theorem kb_guard (F : DfS PW K f "__init__" "GuardedTrip.__init__" (defArgs s_GuardedTrip___init__) (defBody s_GuardedTrip___init__) (defScope s_GuardedTrip___init__) .none D fd) :
    ∃ g : List Value → List Value → List Value, KBn K fd ["self", "chart", "start", "goal", "forbidden", "first", "last"] 5 ["first", "last"] g (fun vs zs => vs ++ zs) := by
  obtain ⟨oc, od, kV, doc, pm, an, cda, ct, osl, cc, cl, cld, csl, ccl, cdd, vs0, ccs, file, tf, ar, rfl, _⟩ := F.ex
  exact ⟨fun us ws => us ++ ws, ⟨fun s us ws _ l1 l2 => by
    match us, l1, ws, l2 with
    | [a, b, c, d, e], _, [x, y], _ => exact .of_eq rfl, fun r1 r2 => r1.append r2⟩⟩
theorem b_Gnext (F : DfS PW K f "next_places" "GuardedTrip.next_places" (defArgs s_GuardedTrip_next_places) (defBody s_GuardedTrip_next_places) (defScope s_GuardedTrip_next_places) .none D fd) : Binds K fd ["self", "place"] [] := by
  obtain ⟨oc, od, kV, doc, pm, an, cda, ct, osl, cc, cl, cld, csl, ccl, cdd, vs0, ccs, file, tf, ar, rfl, _⟩ := F.ex
  exact .all fun us hl => match us, hl with | [_, _], _ => rfl
theorem b_Gmay (F : DfS PW K f "may_be" "GuardedTrip.may_be" (defArgs s_GuardedTrip_may_be) (defBody s_GuardedTrip_may_be) (defScope s_GuardedTrip_may_be) .none D fd) : Binds K fd ["self", "place"] [] := by
  obtain ⟨oc, od, kV, doc, pm, an, cda, ct, osl, cc, cl, cld, csl, ccl, cdd, vs0, ccs, file, tf, ar, rfl, _⟩ := F.ex
  exact .all fun us hl => match us, hl with | [_, _], _ => rfl
theorem chain {fa : Addr} (X : K.In h) (G : h.Ns mainGlobals mg) (c : Says h K) (TB : LamX.TabB base mg (He.codeOf K tJ) (He.cT K tJ).2) (FL : FunD K "law" "law" (defArgs s_law) (defBody s_law) (defScope s_law) [] [] fa fd) :
    FnOk PW w K mg base C8.CX0 14 fa fd ["_law_script"] (spLaw K [((He.cT K tJ).2, qL)]) := by
  have T := bt_of X G c
  have Z := kc_of X G c
  have Xw := wx_of X G c
  have cis_number := ok_is_number (P := PW) (w := w) (base := base) T (df_is_number X G c)
  have cis_cell := ok_is_cell (P := PW) (w := w) (base := base) T cis_number (df_is_cell X G c)
  have cis_place := ok_is_place (P := PW) (w := w) (base := base) T cis_number cis_cell (df_is_place X G c)
  have cfollows := ok_follows (P := PW) (w := w) (base := base) T (df_follows X G c)
  have chas_water := ok_has_water (P := PW) (w := w) (base := base) T (df_has_water X G c)
  have cis_wind := ok_is_wind (P := PW) (w := w) (base := base) T Z cis_number (df_is_wind X G c)
  have cis_listed := ok_is_listed (P := PW) (w := w) (base := base) T (df_is_listed X G c)
  have ccheck_rows := ok_check_rows (P := PW) (w := w) (base := base) T Z cis_number cis_listed chas_water (df_check_rows X G c)
  have ccheck_winds := ok_check_winds (P := PW) (w := w) (base := base) T Z cis_wind cis_listed (df_check_winds X G c)
  have mcheck_water := ok_Chart_check_water (P := PW) (w := w) (base := base) T Z cis_cell (df_Chart_check_water c)
  have mdrag := ok_Chart_drag (P := PW) (w := w) (base := base) T Z mcheck_water (df_Chart_drag c)
  have mcontains := ok_Chart___contains__ (P := PW) (w := w) (base := base) T Z cis_place (df_Chart___contains__ c)
  have mneighbours := ok_Chart_neighbours (P := PW) (w := w) (base := base) T Z mcheck_water (df_Chart_neighbours c)
  have cChart := ok_Chart___init__ (P := PW) (w := w) (base := base) T Z cis_number ccheck_rows ccheck_winds (df_Chart_init X G c)
  have cstart_place := ok_start_place (P := PW) (w := w) (base := base) T Z (df_start_place X G c)
  have cgoal_place := ok_goal_place (P := PW) (w := w) (base := base) T Z (df_goal_place X G c)
  have bTmay := ok_Trip_may_be (P := PW) (w := w) (base := base) T Z mcontains (df_Trip_may_be c)
  have bTnext := ok_Trip_next_places (P := PW) (w := w) (base := base) T Z mcontains mneighbours (df_Trip_next_places c)
  have mTmay_be : C8.Met PW w K mg base 5 (wdK K).ct "may_be" (spMayT (wdK K)) [] := bTmay.met (He.cls_ok (c.d.fact 70 (f := .cls "Trip") rfl)) (He.meth_ok (c.d.fact 94 (f := .meth "Trip" "may_be") rfl))
  have mTnext_places : C8.Met PW w K mg base 5 (wdK K).ct "next_places" (spNextT (wdK K)) [] := bTnext.met (He.cls_ok (c.d.fact 70 (f := .cls "Trip") rfl)) (He.meth_ok (c.d.fact 93 (f := .meth "Trip" "next_places") rfl))
  obtain ⟨fdT, FT⟩ := df_Trip_init c
  obtain ⟨gT, kT⟩ := kb_trip FT
  have fT := ok_Trip___init__ (P := PW) (w := w) (base := base) T Z cis_number mdrag FT
  have cTrip : Mkr PW w K mg base 5 "Trip" (wdK K).ct 3 ["first", "last"] (SpTI (wdK K)) := ⟨_, _, _, gT, (He.mkr_ok (c.d.fact 98 (f := .mkr "Trip") rfl)), fT, (He.glo_ok X G (c.d.fact 43 (f := .glo "Trip") rfl)), kT⟩
  obtain ⟨fdGn, FGn⟩ := df_GuardedTrip_next_places c
  obtain ⟨sGn1, sGn2, sGn3⟩ := supB_ok (exAt (K := K) (ex3 c) 0 rfl)
  obtain ⟨fdGm, FGm⟩ := df_GuardedTrip_may_be c
  obtain ⟨sGm1, sGm2, sGm3⟩ := supB_ok (exAt (K := K) (ex3 c) 1 rfl)
  obtain ⟨fdGi, FGi⟩ := df_GuardedTrip___init__ c
  obtain ⟨sGi1, sGi2, sGi3⟩ := supB_ok (exAt (K := K) (ex3 c) 2 rfl)
  have fGn := ok_GuardedTrip_next_places (P := PW) (w := w) (base := base) T Z bTnext.raw sGn1 sGn2 sGn3 FGn
  have fGm := ok_GuardedTrip_may_be (P := PW) (w := w) (base := base) T Z bTmay.raw sGm1 sGm2 sGm3 FGm
  have fGi := ok_GuardedTrip___init__ (P := PW) (w := w) (base := base) T Z mcontains ⟨_, _, gT, fT, kT⟩ sGi1 sGi2 sGi3 FGi
  have mGmay_be : C8.Met PW w K mg base 6 (wdK K).cg "may_be" (spMayG (wdK K)) [] := ⟨_, _, _, [], (He.cls_ok (c.d.fact 71 (f := .cls "GuardedTrip") rfl)), (He.meth_ok (c.d.fact 96 (f := .meth "GuardedTrip" "may_be") rfl)), fGm, b_Gmay FGm, .nil⟩
  have mGnext_places : C8.Met PW w K mg base 6 (wdK K).cg "next_places" (spNextG (wdK K)) [] := ⟨_, _, _, [], (He.cls_ok (c.d.fact 71 (f := .cls "GuardedTrip") rfl)), (He.meth_ok (c.d.fact 95 (f := .meth "GuardedTrip" "next_places") rfl)), fGn, b_Gnext FGn, .nil⟩
  obtain ⟨gG, kG⟩ := kb_guard FGi
  have cGuardedTrip : Mkr PW w K mg base 6 "GuardedTrip" (wdK K).cg 4 ["first", "last"] (spGuard (wdK K)) := ⟨_, _, _, gG, (He.mkr_ok (c.d.fact 99 (f := .mkr "GuardedTrip") rfl)), fGi, (He.glo_ok X G (c.d.fact 44 (f := .glo "GuardedTrip") rfl)), kG⟩
  have creached_moves := ok_reached_moves (P := PW) (w := w) (base := base) T Z cstart_place mTmay_be mGmay_be mTnext_places mGnext_places (df_reached_moves X G c)
  have cway_moves := ok_way_moves (P := PW) (w := w) (base := base) T Z cgoal_place creached_moves (df_way_moves X G c)
  have cmany_ways := ok_many_ways (P := PW) (w := w) (base := base) T Z cstart_place cway_moves (df_many_ways X G c)
  have cis_way := ok_is_way (P := PW) (w := w) (base := base) T Z cfollows cstart_place cgoal_place mTmay_be mGmay_be (df_is_way X G c)
  have cways := ok_ways (P := PW) (w := w) (base := base) T Z cstart_place cway_moves (df_ways X G c)
  have c_law_moves := ok_law_moves (P := PW) (w := w) (base := base) (df_law_moves X G c)
  have c_law_cells := ok_law_cells (P := PW) (w := w) (base := base) T (df_law_cells X G c)
  have c_law_spots := ok_law_spots (P := PW) (w := w) (base := base) T c_law_cells (df_law_spots X G c)
  have c_law_near := ok_law_near (P := PW) (w := w) (base := base) T c_law_cells c_law_moves (df_law_near X G c)
  have c_law_tracks := ok_law_tracks (P := PW) (w := w) (base := base) T c_law_near (df_law_tracks X G c)
  have c_law_bag := ok_law_bag (P := PW) (w := w) (base := base) T (df_law_bag X G c)
  have c_law_pull := ok_law_pull (P := PW) (w := w) (base := base) T (df_law_pull X G c)
  have c_law_of := ok_law_of (P := PW) (w := w) (base := base) T c_law_pull (df_law_of X G c)
  have c_law_chosen := ok_law_chosen (P := PW) (w := w) (base := base) T c_law_pull (df_law_chosen X G c)
  have c_law_field_of := ok_law_field_of (P := PW) (w := w) (base := base) T c_law_pull c_law_of (df_law_field_of X G c)
  have c_law_gusts := ok_law_gusts (P := PW) (w := w) (base := base) T c_law_of (df_law_gusts X G c)
  have c_law_sea := ok_law_sea (P := PW) (w := w) (base := base) T c_law_pull c_law_of c_law_field_of c_law_gusts (df_law_sea X G c)
  have c_law_tour := ok_law_tour (P := PW) (w := w) (base := base) T c_law_pull c_law_of c_law_cells c_law_spots c_law_chosen (df_law_tour X G c)
  have c_law_bent_track := ok_law_bent_track (P := PW) (w := w) (base := base) T c_law_pull c_law_of c_law_spots (df_law_bent_track X G c)
  have c_law_wrong_at := ok_law_wrong_at (P := PW) (w := w) (base := base) T c_law_spots c_law_near (df_law_wrong_at X G c)
  have c_law_same : C8.Cal PW w K mg base 4 "_law_same" (spSame 4) [] := sameAt T (df_law_same X G c) 4
  have c_law_sheet := ok_law_sheet (P := PW) (w := w) (base := base) T cChart (df_law_sheet X G c)
  have c_law_cruise := ok_law_cruise (P := PW) (w := w) (base := base) T c_law_sheet cTrip cGuardedTrip (df_law_cruise X G c)
  have I : FnB PW w K mg base 1 (ma K (aW K) "__init__") (spIni (aW K)) := ok_wayInit Xw (df_InvalidWay___init__ c)
  have ccheck := ok_check_way (P := PW) (w := w) (base := base) T Z Xw I cfollows mcontains (df_check_way X G c)
  have cf := ok_law_field (P := PW) (w := w) (base := base) Xw (df_law_field X G c)
  have c_law_judged_so := ok_law_judged_so (P := PW) (w := w) (base := base) T Z Xw TB cf (df_law_why X G c) (df_law_refused X G c) ccheck c_law_sheet c_law_bent_track c_law_wrong_at c_law_same cis_way (df_law_judged_so X G c)
  exact ok_law T c_law_bag c_law_sea c_law_tour c_law_cruise c_law_tracks cways cmany_ways c_law_same c_law_of cis_way c_law_judged_so FL
end
theorem law_at {w : World} {K : PySem.W.Frag} {mg : Str → Option Value} {h : Heap} {fa : Addr} (X : K.In h) (G : h.Ns mainGlobals mg) (hfa : mg ("law" : Str) = some (.ref fa)) (c : Says h K) :
    LamX.LawAtS PySem.Challenge.rw_highestsky_k66_whole_ways_listed w K C8.CX0 14 63 "_law_script" mg fa h := by
  obtain ⟨fd, F⟩ := c.d.def_ 39 (d := plD "law" s_law) rfl
  have e := hfa.symm.trans (He.glo_ok X G (c.d.fact 39 (f := .glo "law") rfl))
  cases e
  have b := FunD.bindsA (ps := ["_law_script"]) F fun _ _ _ _ _ _ us hl => match us, hl with | [_], _ => rfl
  refine ⟨fd, [(He.codeOf K tJ, (He.cT K tJ).2)], spLaw K [((He.cT K tJ).2, qL)], fun p hp => ?_, fun p hp => ?_, fun p hp => ?_, fun s u => b s [u] rfl, fun H a ns _ _ hT hS => ⟨a, ns, rfl, hS, fun p hp => ?_, fun _ => rfl⟩, fun base _ _ TB => chain X G c (TB _ (List.mem_singleton.mpr rfl)) F⟩
  · rw [List.mem_singleton.mp hp]
    exact c.empty
  · rw [List.mem_singleton.mp hp]
    exact c.out
  · rw [List.mem_singleton.mp hp]
    exact PySem.W.codeHd_of_K X c.hd
  · rw [List.mem_singleton.mp hp]
    exact LamX.TabS.nil (hT (He.codeOf K tJ, (He.cT K tJ).2) (List.mem_singleton.mpr rfl))
end Sky

set_option Elab.async false
set_option linter.all false
set_option maxRecDepth 100000
set_option maxHeartbeats 0
open PySem PySem.W PySem.Calls PyProof.Rows
theorem PySem.Challenge.cw_highestsky_k66_whole_ways_listed_holds : PySem.Challenge.rw_highestsky_k66_whole_ways_listed.Holds := by
  w_on; o_law
  refine HandSHeadRun.head_any (r := OpenLaw.row PySem.Challenge.rw_highestsky_k66_whole_ways_listed) (q := view (OpenLaw.row PySem.Challenge.rw_highestsky_k66_whole_ways_listed).prog [83]) (H := Sky.hk) (ob := Sky.ob) (M := 8000) (loose := Sky.looseN) (d := HandSHeadRun.topDef (OpenLaw.row PySem.Challenge.rw_highestsky_k66_whole_ways_listed).prog 83) (kwd := []) Sky.ob_eq
    (by kernel_rfl) (fun s => by kernel_rfl) Sky.run (by kernel_rfl) (by kernel_rfl) (by kernel_rfl) (by rfl) (by first | assumption | decide +kernel) (by decide +kernel) ⟨rfl, rfl, rfl, rfl, rfl, by decide +kernel⟩ ?hw ?hc
  case hw => w_witness2
  case hc =>
    refine LamX.walk_ofTsE (l := PySem.Challenge.rw_highestsky_k66_whole_ways_listed) (n := 63) (k := 14) (x := "_law_script") (CX := fun _ => C8.CX0) rfl (by decide) (by kernel_rfl) ⟨rfl, by decide, by decide⟩ ?F (fun _ _ _ _ _ z => z)
    intro w mg fa h Y G hmg0
    obtain ⟨K, KX, c⟩ := Y
    have hmg : mg ("law" : PySem.Str) = some (.ref fa) := by
      have e : (HandSHeadRun.topDef (OpenLaw.row PySem.Challenge.rw_highestsky_k66_whole_ways_listed).prog 83).name = ("law" : PySem.Str) := by kernel_rfl
      rw [← e]
      exact hmg0
    exact ⟨K, KX, Sky.law_at KX G hmg c⟩
