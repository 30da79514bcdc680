import PyProof.Rows.All
import Wide.All
import OpenK.AllK
import Wide.FinOn
import HandS.ForMost
import HandS.ForExc
import HandS.TryMany
import HandS.Evl
import HandS.Flow
import KE.GoesNew
import HandS.Zip
import HandS.TupAny
import HandS.TupLe
import HandS.Deep
import HandS.IsInst
import HandS.Conv
import HandS.SetFor
import HandS.Style
import HandS.StrMore
import KE.SortData
import KE.KRevSl
import PyProof.TupleOfSeq
import PyProof.Rows.InDataRows
import HandS.Strs
import PyProof.SetRoads
import HandS.Defaults
import HandS.Head0
import HandS.Head1
import HandS.Head2
import HandS.HeadEnd
import HandS.HeadHook1
import HandS.HeadHook2
import PySem.Challenge.RW_lastjump_k16_made
set_option Elab.async false
set_option linter.all false
set_option maxRecDepth 1000000
set_option maxHeartbeats 0
set_option autoImplicit false
/-! Mi0: the mirror's answers, data in the abstract heap, what a state bears. -/
namespace Mi
open PySem PySem.Spec PyProof.Rows L2

abbrev Da := PyData

/-! ### answers -/
inductive R (α : Type) where
  | ok (a : α)
  | er (c : String)
  | no
namespace R
def bind {α β : Type} (x : R α) (f : α → R β) : R β := match x with
  | .ok a => f a
  | .er c => .er c
  | .no => .no
@[simp] theorem ok_bind {α β : Type} (a : α) (f : α → R β) : R.bind (.ok a) f = f a := rfl
@[simp] theorem er_bind {α β : Type} (c : String) (f : α → R β) : R.bind (.er c) f = .er c := rfl
@[simp] theorem no_bind {α β : Type} (f : α → R β) : R.bind .no f = .no := rfl
end R

inductive Sl where
  | un
  | fz (d : Da)
  | ow (d : Da)
abbrev Env := List Sl
/-- what a statement comes to -/
inductive SR where
  | nx (r : Env)
  | rt (d : Da)
  | bk (r : Env)
  | ct (r : Env)
  | er (c : String) (r : Env)
  | no

/-! ### heaps -/
def Le (H H' : Hp) : Prop := ∀ a o, H a = some o → H' a = some o
theorem Le.refl (H : Hp) : Le H H := fun _ _ h => h
theorem Le.trans {H H1 H2 : Hp} (a : Le H H1) (b : Le H1 H2) : Le H H2 := fun x o h => b x o (a x o h)
theorem Le.new {H : Hp} {p : Addr} {o : HO} (h : H p = none) : Le H (upd H p o) := fun a u e => by
  rw [upd_ne (ne_of_none e h)]
  exact e
theorem Le.put {H H' : Hp} {p : Addr} {o : HO} (e : Le H H') (h : H p = none) : Le H (upd H' p o) := fun a u ha => by
  rw [upd_ne (ne_of_none ha h)]
  exact e a u ha
theorem Le.both {H H' : Hp} {p : Addr} {o : HO} (e : Le H H') : Le (upd H p o) (upd H' p o) := fun a u ha => by
  by_cases q : a = p
  · subst q
    rw [upd_same] at ha ⊢
    exact ha
  · rw [upd_ne q] at ha ⊢
    exact e a u ha
theorem Le.back {H H' : Hp} {p : Addr} (e : Le H H') (h : H' p = none) : H p = none := by
  cases q : H p with
  | none => rfl
  | some o =>
    rw [e p o q] at h
    cases h
theorem Le.rd {H H' : Hp} {a : Addr} {u : HO} (e : Le H H') (h : Rd H a u) : Rd H' a u := by
  rcases h with h | ⟨o, h⟩
  · exact Or.inl (e a _ h)
  · exact Or.inr ⟨o, e a _ h⟩
theorem Le.sl {K : PySem.W.Frag} {H H' : Hp} {a : Addr} {xs : List V} (e : Le H H') (h : SqL K H a xs) : SqL K H' a xs := by
  rcases h with h | h
  · exact Or.inl (e.rd h)
  · exact Or.inr h
theorem Le.st {K : PySem.W.Frag} {H H' : Hp} {a : Addr} {xs : List V} (e : Le H H') (h : SqT K H a xs) : SqT K H' a xs := by
  rcases h with h | h
  · exact Or.inl (e.rd h)
  · exact Or.inr h

/-! ### data -/
def kD : Key → Da
  | .inl i => .int i
  | .inr x => .str x
mutual
inductive Rep (K : PySem.W.Frag) (H : Hp) : V → Da → Prop
  | non : Rep K H .non .none
  | bl (b : Bool) : Rep K H (.bl b) (.bool b)
  | int (i : Int) : Rep K H (.int i) (.int i)
  | str (x : Str) : Rep K H (.str x) (.str x)
  | lst {a : Addr} {xs : List V} {ds : List Da} : SqL K H a xs → RepAll K H xs ds → Rep K H (.ref a) (.list ds)
  | tup {a : Addr} {xs : List V} {ds : List Da} : SqT K H a xs → RepAll K H xs ds → Rep K H (.ref a) (.tuple ds)
  | dct {a : Addr} {o : Obj} {kvs : List (Key × V)} {kds : List (Da × Da)} : H a = some (.frz o (.dK kvs)) → RepKV K H kvs kds → Rep K H (.ref a) (.dict kds)
inductive RepAll (K : PySem.W.Frag) (H : Hp) : List V → List Da → Prop
  | nil : RepAll K H [] []
  | cons {v : V} {vs : List V} {d : Da} {ds : List Da} : Rep K H v d → RepAll K H vs ds → RepAll K H (v :: vs) (d :: ds)
inductive RepKV (K : PySem.W.Frag) (H : Hp) : List (Key × V) → List (Da × Da) → Prop
  | nil : RepKV K H [] []
  | cons {k : Key} {v : V} {vs : List (Key × V)} {d : Da} {ds : List (Da × Da)} : Rep K H v d → RepKV K H vs ds → RepKV K H ((k, v) :: vs) ((kD k, d) :: ds)
end
section
variable {K : PySem.W.Frag} {H H' : Hp}
mutual
theorem Rep.mono (e : Le H H') : ∀ {v : V} {d : Da}, Rep K H v d → Rep K H' v d
  | _, _, .non => .non
  | _, _, .bl b => .bl b
  | _, _, .int i => .int i
  | _, _, .str x => .str x
  | _, _, .lst h r => .lst (e.sl h) (RepAll.mono e r)
  | _, _, .tup h r => .tup (e.st h) (RepAll.mono e r)
  | _, _, .dct h r => .dct (e _ _ h) (RepKV.mono e r)
theorem RepAll.mono (e : Le H H') : ∀ {v : List V} {d : List Da}, RepAll K H v d → RepAll K H' v d
  | _, _, .nil => .nil
  | _, _, .cons h r => .cons (Rep.mono e h) (RepAll.mono e r)
theorem RepKV.mono (e : Le H H') : ∀ {v : List (Key × V)} {d : List (Da × Da)}, RepKV K H v d → RepKV K H' v d
  | _, _, .nil => .nil
  | _, _, .cons h r => .cons (Rep.mono e h) (RepKV.mono e r)
end
theorem RepAll.length : ∀ {vs : List V} {ds : List Da}, RepAll K H vs ds → vs.length = ds.length
  | _, _, .nil => rfl
  | _, _, .cons _ r => by
    rw [List.length_cons, List.length_cons, r.length]
theorem RepAll.get : ∀ {vs : List V} {ds : List Da} {i : Nat} {d : Da}, RepAll K H vs ds → ds[i]? = some d → ∃ v, vs[i]? = some v ∧ Rep K H v d
  | _, _, _, _, .nil, e => by simp at e
  | _, _, 0, _, .cons h _, e => by
    simp at e
    subst e
    exact ⟨_, rfl, h⟩
  | _, _, i + 1, d, .cons _ t, e => by
    obtain ⟨v, h1, h2⟩ := RepAll.get (i := i) (d := d) t (by simpa using e)
    exact ⟨v, by simpa using h1, h2⟩
theorem RepAll.get' : ∀ {vs : List V} {ds : List Da} {i : Nat} {v : V}, RepAll K H vs ds → vs[i]? = some v → ∃ d, ds[i]? = some d ∧ Rep K H v d
  | _, _, _, _, .nil, e => by simp at e
  | _, _, 0, _, .cons h _, e => by
    simp at e
    subst e
    exact ⟨_, rfl, h⟩
  | _, _, i + 1, d, .cons _ t, e => by
    obtain ⟨v, h1, h2⟩ := RepAll.get' (i := i) (v := d) t (by simpa using e)
    exact ⟨v, by simpa using h1, h2⟩
theorem RepAll.append : ∀ {vs ws : List V} {ds es : List Da}, RepAll K H vs ds → RepAll K H ws es → RepAll K H (vs ++ ws) (ds ++ es)
  | _, _, _, _, .nil, s => s
  | _, _, _, _, .cons h r, s => .cons h (RepAll.append r s)
theorem RepAll.take : ∀ {vs : List V} {ds : List Da} (n : Nat), RepAll K H vs ds → RepAll K H (vs.take n) (ds.take n)
  | _, _, 0, _ => .nil
  | _, _, _ + 1, .nil => .nil
  | _, _, n + 1, .cons h r => .cons h (RepAll.take n r)
theorem RepAll.drop : ∀ {vs : List V} {ds : List Da} (n : Nat), RepAll K H vs ds → RepAll K H (vs.drop n) (ds.drop n)
  | _, _, 0, r => r
  | _, _, _ + 1, .nil => .nil
  | _, _, n + 1, .cons _ r => RepAll.drop n r
theorem RepAll.reverse : ∀ {vs : List V} {ds : List Da}, RepAll K H vs ds → RepAll K H vs.reverse ds.reverse
  | _, _, .nil => .nil
  | _, _, .cons h r => by
    rw [List.reverse_cons, List.reverse_cons]
    exact r.reverse.append (.cons h .nil)
theorem RepAll.set {v : V} {d : Da} (h : Rep K H v d) : ∀ {vs : List V} {ds : List Da} (i : Nat), RepAll K H vs ds → RepAll K H (vs.set i v) (ds.set i d)
  | _, _, _, .nil => .nil
  | _, _, 0, .cons _ t => .cons h t
  | _, _, i + 1, .cons q t => .cons q (RepAll.set h i t)
theorem RepAll.one {v : V} {d : Da} (h : Rep K H v d) : RepAll K H [v] [d] := .cons h .nil
theorem RepAll.ints : ∀ {vs : List V} {ns : List Int}, RepAll K H vs (ns.map PyData.int) → vs = ns.map V.int
  | _, [], .nil => rfl
  | _, n :: ns, .cons h r => by
    cases h
    rw [r.ints]
    rfl
theorem RepAll.strs : ∀ {vs : List V} {ns : List Str}, RepAll K H vs (ns.map PyData.str) → vs = ns.map V.str
  | _, [], .nil => rfl
  | _, n :: ns, .cons h r => by
    cases h
    rw [r.strs]
    rfl
theorem repInts : ∀ (ns : List Int), RepAll K H (ns.map V.int) (ns.map PyData.int)
  | [] => .nil
  | n :: ns => .cons (.int n) (repInts ns)
theorem repStrs : ∀ (ns : List Str), RepAll K H (ns.map V.str) (ns.map PyData.str)
  | [] => .nil
  | n :: ns => .cons (.str n) (repStrs ns)
theorem RepKV.length : ∀ {vs : List (Key × V)} {ds : List (Da × Da)}, RepKV K H vs ds → vs.length = ds.length
  | _, _, .nil => rfl
  | _, _, .cons _ r => by
    rw [List.length_cons, List.length_cons, r.length]
end

/-! ### steps: what an expression does to the frozen part B and the heap H -/
/-- B grows to B' by what is new to F -/
def Gr (F B B' : Hp) : Prop := Le B B' ∧ ∀ a o, F a = some o → B' a = B a
theorem Gr.refl (F B : Hp) : Gr F B B := ⟨Le.refl B, fun _ _ _ => rfl⟩
theorem Gr.trans {F B B1 B2 : Hp} (a : Gr F B B1) (b : Gr F B1 B2) : Gr F B B2 := ⟨a.1.trans b.1, fun x o h => (b.2 x o h).trans (a.2 x o h)⟩
theorem Gr.weak {F F' B B' : Hp} (a : Gr F B B') (e : Le F' F) : Gr F' B B' := ⟨a.1, fun x o h => a.2 x o (e x o h)⟩
structure Stp (B H B' H' : Hp) : Prop where
  gr : Gr H B B'
  bh : Le B' H'
  hh : Le H H'
theorem Stp.refl {B H : Hp} (h : Le B H) : Stp B H B H := ⟨Gr.refl _ _, h, Le.refl _⟩
theorem Stp.trans {B H B1 H1 B2 H2 : Hp} (a : Stp B H B1 H1) (b : Stp B1 H1 B2 H2) : Stp B H B2 H2 := ⟨a.gr.trans (b.gr.weak a.hh), b.bh, a.hh.trans b.hh⟩
/-- a new object, frozen at once -/
theorem Stp.new {B H : Hp} {p : Addr} {o : HO} (h : Le B H) (n : H p = none) : Stp B H (upd B p o) (upd H p o) :=
  ⟨⟨Le.new (h.back n), fun a u e => upd_ne (ne_of_none e n)⟩, h.both, Le.new n⟩
/-- a new object that nobody needs -/
theorem Stp.drop {B H : Hp} {p : Addr} {o : HO} (h : Le B H) (n : H p = none) : Stp B H B (upd H p o) :=
  ⟨Gr.refl _ _, h.trans (Le.new n), Le.new n⟩

/-! ### what may be read: frozen, or owned by a slot -/
def Rr (K : PySem.W.Frag) (B H : Hp) (v : V) (d : Da) : Prop :=
  Rep K B v d ∨ (∃ p xs ds, v = .ref p ∧ d = .list ds ∧ H p = some (.lst xs) ∧ RepAll K B xs ds) ∨ (∃ p kvs kds, v = .ref p ∧ d = .dict kds ∧ H p = some (.dK kvs) ∧ RepKV K B kvs kds)
theorem Rr.stp {K : PySem.W.Frag} {B H B' H' : Hp} {v : V} {d : Da} (r : Rr K B H v d) (s : Stp B H B' H') : Rr K B' H' v d := by
  rcases r with r | ⟨p, xs, ds, e1, e2, h, r⟩ | ⟨p, xs, ds, e1, e2, h, r⟩
  · exact .inl (r.mono s.gr.1)
  · exact .inr (.inl ⟨p, xs, ds, e1, e2, s.hh _ _ h, r.mono s.gr.1⟩)
  · exact .inr (.inr ⟨p, xs, ds, e1, e2, s.hh _ _ h, r.mono s.gr.1⟩)
/-- the list that is read -/
theorem Rr.list {K : PySem.W.Frag} {B H : Hp} {v : V} {ds : List Da} (b : Le B H) (r : Rr K B H v (.list ds)) : ∃ p xs, v = .ref p ∧ SqL K H p xs ∧ RepAll K B xs ds := by
  rcases r with r | ⟨p, xs, ds', e1, e2, h, r⟩ | ⟨p, xs, ds', e1, e2, h, r⟩
  · cases r with
    | lst h r => exact ⟨_, _, rfl, b.sl h, r⟩
  · cases e2
    exact ⟨p, xs, e1, .inl (.inl h), r⟩
  · cases e2
theorem Rr.tuple {K : PySem.W.Frag} {B H : Hp} {v : V} {ds : List Da} (b : Le B H) (r : Rr K B H v (.tuple ds)) : ∃ p xs, v = .ref p ∧ SqT K H p xs ∧ SqT K B p xs ∧ RepAll K B xs ds := by
  rcases r with r | ⟨p, xs, ds', e1, e2, h, r⟩ | ⟨p, xs, ds', e1, e2, h, r⟩
  · cases r with
    | tup h r => exact ⟨_, _, rfl, b.st h, h, r⟩
  · cases e2
  · cases e2
theorem Rr.dict {K : PySem.W.Frag} {B H : Hp} {v : V} {kds : List (Da × Da)} (b : Le B H) (r : Rr K B H v (.dict kds)) : ∃ p kvs, v = .ref p ∧ Rd H p (.dK kvs) ∧ RepKV K B kvs kds := by
  rcases r with r | ⟨p, xs, ds', e1, e2, h, r⟩ | ⟨p, xs, ds', e1, e2, h, r⟩
  · cases r with
    | dct h r => exact ⟨_, _, rfl, .inr ⟨_, b _ _ h⟩, r⟩
  · cases e2
  · cases e2
    exact ⟨p, xs, e1, .inl h, r⟩
theorem Rr.int {K : PySem.W.Frag} {B H : Hp} {v : V} {i : Int} (r : Rr K B H v (.int i)) : v = .int i := by
  rcases r with r | ⟨p, xs, ds', e1, e2, h, r⟩ | ⟨p, xs, ds', e1, e2, h, r⟩
  · cases r
    rfl
  · cases e2
  · cases e2
theorem Rr.str {K : PySem.W.Frag} {B H : Hp} {v : V} {i : Str} (r : Rr K B H v (.str i)) : v = .str i := by
  rcases r with r | ⟨p, xs, ds', e1, e2, h, r⟩ | ⟨p, xs, ds', e1, e2, h, r⟩
  · cases r
    rfl
  · cases e2
  · cases e2
theorem Rr.bool {K : PySem.W.Frag} {B H : Hp} {v : V} {i : Bool} (r : Rr K B H v (.bool i)) : v = .bl i := by
  rcases r with r | ⟨p, xs, ds', e1, e2, h, r⟩ | ⟨p, xs, ds', e1, e2, h, r⟩
  · cases r
    rfl
  · cases e2
  · cases e2
theorem Rr.none {K : PySem.W.Frag} {B H : Hp} {v : V} (r : Rr K B H v .none) : v = .non := by
  rcases r with r | ⟨p, xs, ds', e1, e2, h, r⟩ | ⟨p, xs, ds', e1, e2, h, r⟩
  · cases r
    rfl
  · cases e2
  · cases e2

/-! ### the environment -/
def OwnD (K : PySem.W.Frag) (B H : Hp) (p : Addr) : Da → Prop
  | .list ds => ∃ xs, H p = some (.lst xs) ∧ RepAll K B xs ds
  | .dict kds => ∃ kvs, H p = some (.dK kvs) ∧ RepKV K B kvs kds
  | _ => False
def SlOk (K : PySem.W.Frag) (F B H : Hp) (σ : L2.St) (i : Nat) : Sl → Prop
  | .un => True
  | .fz d => ∃ v, σ[i]? = some (some v) ∧ Rep K B v d
  | .ow d => ∃ p, σ[i]? = some (some (.ref p)) ∧ F p = none ∧ B p = none ∧ OwnD K B H p d
structure Ok (K : PySem.W.Frag) (F B H : Hp) (σ : L2.St) (r : Env) : Prop where
  bh : Le B H
  fh : Le F H
  len : σ.length = r.length
  sl : ∀ (i : Nat) (s : Sl), r[i]? = some s → SlOk K F B H σ i s
  inj : ∀ (i j : Nat) (d e : Da) (p : Addr), i ≠ j → r[i]? = some (.ow d) → r[j]? = some (.ow e) → σ[i]? = some (some (.ref p)) → σ[j]? ≠ some (some (.ref p))
theorem OwnD.stp {K : PySem.W.Frag} {B H B' H' : Hp} {p : Addr} (s : Stp B H B' H') : ∀ {d : Da}, OwnD K B H p d → OwnD K B' H' p d
  | .list _, ⟨xs, h, r⟩ => ⟨xs, s.hh _ _ h, r.mono s.gr.1⟩
  | .dict _, ⟨xs, h, r⟩ => ⟨xs, s.hh _ _ h, r.mono s.gr.1⟩
theorem OwnD.there {K : PySem.W.Frag} {B H : Hp} {p : Addr} : ∀ {d : Da}, OwnD K B H p d → ∃ o, H p = some o
  | .list _, ⟨_, h, _⟩ => ⟨_, h⟩
  | .dict _, ⟨_, h, _⟩ => ⟨_, h⟩
theorem Ok.stp {K : PySem.W.Frag} {F B H B' H' : Hp} {σ : L2.St} {r : Env} (k : Ok K F B H σ r) (s : Stp B H B' H') : Ok K F B' H' σ r := by
  refine ⟨s.bh, k.fh.trans s.hh, k.len, fun i sl e => ?_, k.inj⟩
  have h := k.sl i sl e
  cases sl with
  | un => trivial
  | fz d =>
    obtain ⟨v, h1, h2⟩ := h
    exact ⟨v, h1, h2.mono s.gr.1⟩
  | ow d =>
    obtain ⟨p, h1, h2, h3, h4⟩ := h
    obtain ⟨o, ho⟩ := h4.there
    exact ⟨p, h1, h2, by rw [s.gr.2 p o ho]; exact h3, h4.stp s⟩
theorem Stp.grF {F B H B' H' : Hp} (s : Stp B H B' H') (f : Le F H) : Gr F B B' := s.gr.weak f
/-- reading a slot -/
theorem Ok.rd {K : PySem.W.Frag} {F B H : Hp} {σ : L2.St} {r : Env} {i : Nat} {s : Sl} (k : Ok K F B H σ r) (e : r[i]? = some s) :
    match s with
    | .un => True
    | .fz d => ∃ v, σ[i]? = some (some v) ∧ Rep K B v d
    | .ow d => ∃ v, σ[i]? = some (some v) ∧ Rr K B H v d := by
  have h := k.sl i s e
  cases s with
  | un => trivial
  | fz d => exact h
  | ow d =>
    obtain ⟨p, h1, h2, h3, h4⟩ := h
    refine ⟨.ref p, h1, ?_⟩
    cases d with
    | list ds =>
      obtain ⟨xs, h5, h6⟩ := h4
      exact .inr (.inl ⟨p, xs, ds, rfl, rfl, h5, h6⟩)
    | dict ds =>
      obtain ⟨xs, h5, h6⟩ := h4
      exact .inr (.inr ⟨p, xs, ds, rfl, rfl, h5, h6⟩)
    | none => exact h4.elim
    | bool b => exact h4.elim
    | int b => exact h4.elim
    | str b => exact h4.elim
    | tuple b => exact h4.elim
end Mi

/-! Mi1: the judgements, and the rules that do not look into data. -/
namespace Mi
open PySem PySem.Spec PyProof.Rows L2

/-- what is wanted behind an answer -/
def Pw {α : Type} (cls : String → Value) (B H : Hp) (σ : L2.St) (W : WX) (φ : α → Hp → Hp → Prop) : R α → Prop
  | .ok a => ∀ B' H', Stp B H B' H' → φ a B' H'
  | .er c => ∀ B' H', Stp B H B' H' → W (cls c) none σ H'
  | .no => False
section
variable {α β : Type} {cls : String → Value} {B H B' H' : Hp} {σ : L2.St} {W : WX} {φ ψ : α → Hp → Hp → Prop} {χ : β → Hp → Hp → Prop}
theorem Pw.stp {x : R α} (p : Pw cls B H σ W φ x) (s : Stp B H B' H') : Pw cls B' H' σ W φ x := by
  cases x with
  | ok a => exact fun B2 H2 s2 => p B2 H2 (s.trans s2)
  | er c => exact fun B2 H2 s2 => p B2 H2 (s.trans s2)
  | no => exact p
theorem Pw.bind {x : R α} {g : α → R β} (p : Pw cls B H σ W χ (x.bind g)) : Pw cls B H σ W (fun a B' H' => Pw cls B' H' σ W χ (g a)) x := by
  cases x with
  | ok a => exact fun B2 H2 s2 => Pw.stp p s2
  | er c => exact p
  | no => exact p
theorem Pw.imp {x : R α} (p : Pw cls B H σ W φ x) (h : ∀ a B' H', Stp B H B' H' → φ a B' H' → ψ a B' H') : Pw cls B H σ W ψ x := by
  cases x with
  | ok a => exact fun B2 H2 s2 => h a B2 H2 s2 (p B2 H2 s2)
  | er c => exact p
  | no => exact p
/-- no error is let through -/
def R.calm (x : R α) : R α := match x with
  | .ok a => .ok a
  | _ => .no
theorem Pw.calm {x : R α} (p : Pw cls B H σ W φ x.calm) : ∃ a, x = .ok a ∧ ∀ B' H', Stp B H B' H' → φ a B' H' := by
  cases x with
  | ok a => exact ⟨a, rfl, p⟩
  | er c => exact p.elim
  | no => exact p.elim
theorem Pw.calmW {x : R α} (p : Pw cls B H σ W φ x.calm) {W' : WX} {σ' : L2.St} : Pw cls B H σ' W' φ x := by
  obtain ⟨a, rfl, h⟩ := p.calm
  exact h
@[simp] theorem R.calm_ok (a : α) : R.calm (.ok a) = .ok a := rfl
@[simp] theorem R.calm_no : R.calm (.no : R α) = .no := rfl
end
/-- several values that may be read now -/
inductive RrAll (K : PySem.W.Frag) (B H : Hp) : List V → List Da → Prop
  | nil : RrAll K B H [] []
  | cons {v : V} {vs : List V} {d : Da} {ds : List Da} : Rr K B H v d → RrAll K B H vs ds → RrAll K B H (v :: vs) (d :: ds)
theorem RrAll.stp {K : PySem.W.Frag} {B H B' H' : Hp} (s : Stp B H B' H') : ∀ {vs : List V} {ds : List Da}, RrAll K B H vs ds → RrAll K B' H' vs ds
  | _, _, .nil => .nil
  | _, _, .cons h r => .cons (h.stp s) (r.stp s)
/-- the five wants: a frozen value, a value read now, a new object of one's own, a test, arguments -/
abbrev WfE (K : PySem.W.Frag) (Q : VK) : Da → Hp → Hp → Prop := fun d B' H' => ∀ v, Rep K B' v d → Q v H'
abbrev WfR (K : PySem.W.Frag) (Q : VK) : Da → Hp → Hp → Prop := fun d B' H' => ∀ v, Rr K B' H' v d → Q v H'
abbrev WfF (K : PySem.W.Frag) (H : Hp) (Q : VK) : Da → Hp → Hp → Prop := fun d B' H' => ∀ p, H p = none → B' p = none → OwnD K B' H' p d → Q (.ref p) H'
abbrev WfT (Q : Bool → Hp → Prop) : Bool → Hp → Hp → Prop := fun b _ H' => Q b H'
abbrev WfA (K : PySem.W.Frag) (Q : List V → Hp → Prop) : List Da → Hp → Hp → Prop := fun ds B' H' => ∀ vs, RepAll K B' vs ds → Q vs H'
abbrev WfB (K : PySem.W.Frag) (Q : List V → Hp → Prop) : List Da → Hp → Hp → Prop := fun ds B' H' => ∀ vs, RrAll K B' H' vs ds → Q vs H'

section
variable (cls : String → Value) (X : Cx) (W : WX)
structure DE (e : Expr) (f : Env → R Da) : Prop where
  run : ∃ t, PE X e t ∧ ∀ (F B H : Hp) (σ : L2.St) (r : Env) (Q : VK), Ok X.K F B H σ r → Pw cls B H σ W (WfE X.K Q) (f r) → t σ H Q
structure DR (e : Expr) (f : Env → R Da) : Prop where
  run : ∃ t, PE X e t ∧ ∀ (F B H : Hp) (σ : L2.St) (r : Env) (Q : VK), Ok X.K F B H σ r → Pw cls B H σ W (WfR X.K Q) (f r) → t σ H Q
structure DF (e : Expr) (f : Env → R Da) : Prop where
  run : ∃ t, PE X e t ∧ ∀ (F B H : Hp) (σ : L2.St) (r : Env) (Q : VK), Ok X.K F B H σ r → Pw cls B H σ W (WfF X.K H Q) (f r) → t σ H Q
structure DT (e : Expr) (f : Env → R Bool) : Prop where
  run : ∃ t, PT X e t ∧ ∀ (F B H : Hp) (σ : L2.St) (r : Env) (Q : Bool → Hp → Prop), Ok X.K F B H σ r → Pw cls B H σ W (WfT Q) (f r) → t σ H Q
structure DW (e : Expr) (f : Env → R Bool) : Prop where
  run : ∃ t, PW X e t ∧ ∀ (F B H : Hp) (σ : L2.St) (r : Env) (Q : Bool → Hp → Prop), Ok X.K F B H σ r → Pw cls B H σ W (WfT Q) (f r) → t σ H Q
structure DA (es : List Expr) (f : Env → R (List Da)) : Prop where
  run : ∃ t, PA X es t ∧ ∀ (F B H : Hp) (σ : L2.St) (r : Env) (Q : List V → Hp → Prop), Ok X.K F B H σ r → Pw cls B H σ W (WfA X.K Q) (f r) → t σ H Q
structure DB (es : List Expr) (f : Env → R (List Da)) : Prop where
  run : ∃ t, PA X es t ∧ ∀ (F B H : Hp) (σ : L2.St) (r : Env) (Q : List V → Hp → Prop), Ok X.K F B H σ r → Pw cls B H σ W (WfB X.K Q) (f r) → t σ H Q
end

section
variable {cls : String → Value} {X : Cx} {W : WX}

/-! ### from one kind of value to another -/
theorem DE.r {e : Expr} {f : Env → R Da} (h : DE cls X W e f) : DR cls X W e f := by
  obtain ⟨t, ht, h⟩ := h.run
  exact ⟨t, ht, fun F B H σ r Q k p => h F B H σ r Q k (p.imp fun d B' H' s q v hv => q v (.inl hv))⟩
theorem rr_own {K : PySem.W.Frag} {B H : Hp} {p : Addr} : ∀ {d : Da}, OwnD K B H p d → Rr K B H (.ref p) d
  | .list _, ⟨xs, h, r⟩ => .inr (.inl ⟨p, xs, _, rfl, rfl, h, r⟩)
  | .dict _, ⟨xs, h, r⟩ => .inr (.inr ⟨p, xs, _, rfl, rfl, h, r⟩)
theorem DF.r {e : Expr} {f : Env → R Da} (h : DF cls X W e f) : DR cls X W e f := by
  obtain ⟨t, ht, h⟩ := h.run
  exact ⟨t, ht, fun F B H σ r Q k p => h F B H σ r Q k (p.imp fun d B' H' s q v _ _ hv => q _ (rr_own hv))⟩
/-- a new list frozen at once -/
def isL : Da → R Da
  | .list ds => .ok (.list ds)
  | _ => .no
def eFz (f : Env → R Da) : Env → R Da := fun r => (f r).bind isL
theorem frz_list {K : PySem.W.Frag} {B H B' H' : Hp} {p : Addr} {ds : List Da} (s : Stp B H B' H') (n : H p = none) (b : B' p = none) (o : OwnD K B' H' p (.list ds)) : ∃ B2, Stp B H B2 H' ∧ Le B' B2 ∧ Rep K B2 (.ref p) (.list ds) := by
  obtain ⟨xs, h, r⟩ := o
  have l : Le B' (upd B' p (.lst xs)) := Le.new b
  refine ⟨upd B' p (.lst xs), ⟨s.gr.trans ⟨l, fun a u e => upd_ne (ne_of_none e n)⟩, fun a u e => ?_, s.hh⟩, l, .lst (.inl (.inl upd_same)) (r.mono l)⟩
  by_cases q : a = p
  · subst q
    rw [upd_same] at e
    rw [h, e]
  · rw [upd_ne q] at e
    exact s.bh a u e
theorem DF.e {e : Expr} {f : Env → R Da} (h : DF cls X W e f) : DE cls X W e (eFz f) := by
  obtain ⟨t, ht, h⟩ := h.run
  refine ⟨t, ht, fun F B H σ r Q k p => h F B H σ r Q k ?_⟩
  unfold eFz at p
  cases q : f r with
  | ok d =>
    rw [q] at p
    intro B' H' s a n b o
    cases d with
    | list ds =>
      obtain ⟨B2, s2, _, hr⟩ := frz_list s n b o
      exact p B2 H' s2 _ hr
    | none => exact o.elim
    | bool b => exact o.elim
    | int b => exact o.elim
    | str b => exact o.elim
    | tuple b => exact o.elim
    | dict b => exact p.elim
  | er c =>
    rw [q] at p
    exact p
  | no =>
    rw [q] at p
    exact p

/-! ### names, constants -/
def eVar (i : Nat) : Env → R Da := fun r => match r[i]? with
  | some (.fz d) => .ok d
  | _ => .no
/-- a name that is read at once: frozen or owned -/
def eRd (i : Nat) : Env → R Da := fun r => match r[i]? with
  | some (.fz d) => .ok d
  | some (.ow d) => .ok d
  | _ => .no
def eC (d : Da) : Env → R Da := fun _ => .ok d
theorem de_var (i : Nat) {x : Str} {pos : Pos} (hN : X.N[i]? = some x := by rfl) (hv : Vis X.env.scope x := by first | exact Or.inl rfl | exact Or.inr (Or.inl rfl) | exact Or.inr (Or.inr rfl))
    (hd : (x == ("__debug__" : Str)) = false := by decide) (hcd : (x == ("__classdict__" : Str)) = false := by decide) : DE cls X W (.Name x pos) (eVar i) := by
  refine ⟨_, pe_var hN hv hd hcd, fun F B H σ r Q k p => ?_⟩
  unfold eVar at p
  split at p
  · rename_i d e
    obtain ⟨v, h1, h2⟩ := k.rd e
    exact ⟨v, h1, p B H (Stp.refl k.bh) v h2⟩
  · exact p.elim
theorem dr_var (i : Nat) {x : Str} {pos : Pos} (hN : X.N[i]? = some x := by rfl) (hv : Vis X.env.scope x := by first | exact Or.inl rfl | exact Or.inr (Or.inl rfl) | exact Or.inr (Or.inr rfl))
    (hd : (x == ("__debug__" : Str)) = false := by decide) (hcd : (x == ("__classdict__" : Str)) = false := by decide) : DR cls X W (.Name x pos) (eRd i) := by
  refine ⟨_, pe_var hN hv hd hcd, fun F B H σ r Q k p => ?_⟩
  unfold eRd at p
  split at p
  · rename_i d e
    obtain ⟨v, h1, h2⟩ := k.rd e
    exact ⟨v, h1, p B H (Stp.refl k.bh) v (.inl h2)⟩
  · rename_i d e
    obtain ⟨v, h1, h2⟩ := k.rd e
    exact ⟨v, h1, p B H (Stp.refl k.bh) v h2⟩
  · exact p.elim
theorem de_int {i : Int} {j : Nat} {pos : Pos} : DE cls X W (.Constant (.int i) j pos) (eC (.int i)) := ⟨_, pe_int, fun F B H σ r Q k p => p B H (Stp.refl k.bh) _ (.int i)⟩
theorem de_str {i : Str} {j : Nat} {pos : Pos} : DE cls X W (.Constant (.str i) j pos) (eC (.str i)) := ⟨_, pe_str, fun F B H σ r Q k p => p B H (Stp.refl k.bh) _ (.str i)⟩
theorem de_bl {i : Bool} {j : Nat} {pos : Pos} : DE cls X W (.Constant (.bool i) j pos) (eC (.bool i)) := ⟨_, pe_bl, fun F B H σ r Q k p => p B H (Stp.refl k.bh) _ (.bl i)⟩
theorem de_non {j : Nat} {pos : Pos} : DE cls X W (.Constant .none j pos) (eC .none) := ⟨_, pe_non, fun F B H σ r Q k p => p B H (Stp.refl k.bh) _ .non⟩
/-- a module's constant, an int or a text -/
theorem de_globI {x : Str} {i : Int} {tk : Tok} {pos : Pos} (hm : X.mg x = some (.int i tk)) (hg : Gl X x := by rfl) (hd : (x == ("__debug__" : Str)) = false := by decide) : DE cls X W (.Name x pos) (eC (.int i)) :=
  ⟨_, pe_glob (v := .int i) hg hm ⟨_, rfl⟩ hd, fun F B H σ r Q k p => p B H (Stp.refl k.bh) _ (.int i)⟩
theorem de_globS {x y : Str} {tk : Tok} {pos : Pos} (hm : X.mg x = some (.str y tk)) (hg : Gl X x := by rfl) (hd : (x == ("__debug__" : Str)) = false := by decide) : DE cls X W (.Name x pos) (eC (.str y)) :=
  ⟨_, pe_glob (v := .str y) hg hm ⟨_, rfl⟩ hd, fun F B H σ r Q k p => p B H (Stp.refl k.bh) _ (.str y)⟩

/-! ### operators upon data -/
def rD (K : PySem.W.Frag) (g : Da → Da → R Da) : R2 := fun x y H Q => ∃ B dx dy d, Le B H ∧ Rr K B H x dx ∧ Rr K B H y dy ∧ g dx dy = .ok d ∧ ∀ B' H' v, Stp B H B' H' → Rep K B' v d → Q v H'
def eBin (g : Da → Da → R Da) (fa fb : Env → R Da) : Env → R Da := fun r => (fa r).bind fun x => (fb r).bind fun y => (g x y).calm
theorem run2 {ta tb : TE} {fa fb : Env → R Da} {F B H : Hp} {σ : L2.St} {r : Env} {g : Da → Da → R Da} {Q : VK}
    (ha : ∀ (F B H : Hp) (σ : L2.St) (r : Env) (Q : VK), Ok X.K F B H σ r → Pw cls B H σ W (WfR X.K Q) (fa r) → ta σ H Q)
    (hb : ∀ (F B H : Hp) (σ : L2.St) (r : Env) (Q : VK), Ok X.K F B H σ r → Pw cls B H σ W (WfR X.K Q) (fb r) → tb σ H Q) (k : Ok X.K F B H σ r)
    (p : Pw cls B H σ W (WfE X.K Q) (eBin g fa fb r)) : tOp (rD X.K g) ta tb σ H Q := by
  refine ha F B H σ r _ k (p.bind.imp fun dx B1 H1 s1 p1 x hx => hb F B1 H1 σ r _ (k.stp s1) (p1.bind.imp fun dy B2 H2 s2 p2 y hy => ?_))
  obtain ⟨d, e, h⟩ := p2.calm
  exact ⟨B2, dx, dy, d, s2.bh, hx.stp s2, hy, e, fun B' H' v s hv => h B' H' s v hv⟩
theorem de_op {op : Operator} {g : Da → Da → R Da} {a b : Expr} {fa fb : Env → R Da} {pos : Pos} (ho : OpR X (binaryOp op) (rD X.K g)) (ha : DR cls X W a fa) (hb : DR cls X W b fb) : DE cls X W (.BinOp a op b pos) (eBin g fa fb) := by
  obtain ⟨ta, pa, ha⟩ := ha.run
  obtain ⟨tb, pb, hb⟩ := hb.run
  exact ⟨_, pe_op ho pa pb, fun F B H σ r Q k p => run2 ha hb k p⟩
theorem de_cmp {op : CmpOp} {g : Da → Da → R Da} {a b : Expr} {fa fb : Env → R Da} {pos : Pos} (ho : OpR X (compareOp op) (rD X.K g)) (ha : DR cls X W a fa) (hb : DR cls X W b fb) (hm : behindInMarks op b = false := by first | exact nomark _ | rfl) :
    DE cls X W (.Compare a [op] [b] pos) (eBin g fa fb) := by
  obtain ⟨ta, pa, ha⟩ := ha.run
  obtain ⟨tb, pb, hb⟩ := hb.run
  exact ⟨_, pe_cmpR ho pa pb hm, fun F B H σ r Q k p => run2 ha hb k p⟩
/-- a bool's answer as a test's -/
def isB : Da → R Bool
  | .bool b => .ok b
  | _ => .no
def tB (f : Env → R Da) : Env → R Bool := fun r => (f r).bind isB
theorem tB_post {B H : Hp} {σ : L2.St} {Q : Bool → Hp → Prop} {f : Env → R Da} {r : Env} (p : Pw cls B H σ W (WfT Q) (tB f r)) : Pw cls B H σ W (WfE X.K fun v H' => ∃ k, v = .bl k ∧ Q k H') (f r) := by
  refine p.bind.imp fun d B' H' s q v hv => ?_
  cases d with
  | bool b =>
    cases hv
    exact ⟨b, rfl, q B' H' (Stp.refl s.bh)⟩
  | none => exact q.elim
  | int b => exact q.elim
  | str b => exact q.elim
  | tuple b => exact q.elim
  | list b => exact q.elim
  | dict b => exact q.elim
theorem dt_cmp {op : CmpOp} {g : Da → Da → R Da} {a b : Expr} {fa fb : Env → R Da} {pos : Pos} (ho : OpR X (compareOp op) (rD X.K g)) (ha : DR cls X W a fa) (hb : DR cls X W b fb) (hm : behindInMarks op b = false := by first | exact nomark _ | rfl) :
    DT cls X W (.Compare a [op] [b] pos) (tB (eBin g fa fb)) := by
  obtain ⟨ta, pa, ha⟩ := ha.run
  obtain ⟨tb, pb, hb⟩ := hb.run
  exact ⟨_, pt_cmpR ho pa pb hm, fun F B H σ r Q k p => run2 ha hb k (tB_post p)⟩
/-- a op b op' c -/
def eChain (g g' : Da → Da → R Da) (fa fb fc : Env → R Da) : Env → R Da := fun r => (fa r).bind fun x => (fb r).bind fun y => (g x y).calm.bind fun z => match z with
  | .bool true => (fc r).bind fun u => (g' y u).calm
  | .bool false => .ok (.bool false)
  | _ => .no
theorem chain_run {ta tb tc : TE} {fa fb fc : Env → R Da} {F B H : Hp} {σ : L2.St} {r : Env} {g g' : Da → Da → R Da} {Q : VK}
    (ha : ∀ (F B H : Hp) (σ : L2.St) (r : Env) (Q : VK), Ok X.K F B H σ r → Pw cls B H σ W (WfR X.K Q) (fa r) → ta σ H Q)
    (hb : ∀ (F B H : Hp) (σ : L2.St) (r : Env) (Q : VK), Ok X.K F B H σ r → Pw cls B H σ W (WfR X.K Q) (fb r) → tb σ H Q)
    (hc : ∀ (F B H : Hp) (σ : L2.St) (r : Env) (Q : VK), Ok X.K F B H σ r → Pw cls B H σ W (WfR X.K Q) (fc r) → tc σ H Q) (k : Ok X.K F B H σ r)
    (p : Pw cls B H σ W (WfE X.K Q) (eChain g g' fa fb fc r)) : tChain (rD X.K g) (rD X.K g') ta tb tc σ H Q := by
  refine ha F B H σ r _ k (p.bind.imp fun dx B1 H1 s1 p1 x hx => hb F B1 H1 σ r _ (k.stp s1) (p1.bind.imp fun dy B2 H2 s2 p2 y hy => ?_))
  obtain ⟨d, e, h⟩ := p2.bind.calm
  refine ⟨B2, dx, dy, d, s2.bh, hx.stp s2, hy, e, fun B3 H3 v s3 hv => ?_⟩
  have h := h B3 H3 s3
  cases d with
  | bool b =>
    cases hv
    refine ⟨b, rfl, ?_⟩
    cases b with
    | true =>
      rw [if_pos rfl]
      refine hc F B3 H3 σ r _ ((k.stp s1).stp (s2.trans s3)) (h.bind.imp fun du B4 H4 s4 p4 u hu => ?_)
      obtain ⟨d', e', h'⟩ := p4.calm
      exact ⟨B4, dy, du, d', s4.bh, (hy.stp s3).stp s4, hu, e', fun B' H' v s hv => h' B' H' s v hv⟩
    | false =>
      rw [if_neg Bool.false_ne_true]
      exact h B3 H3 (Stp.refl s3.bh) _ (.bl false)
  | none => exact h.elim
  | int b => exact h.elim
  | str b => exact h.elim
  | tuple b => exact h.elim
  | list b => exact h.elim
  | dict b => exact h.elim

/-! ### tests -/
def truthD : Da → R Bool
  | .none => .ok false
  | .bool b => .ok b
  | .int i => .ok (i != 0)
  | .str x => if x.length ≤ 100000 then .ok (x.length != 0) else .no
  | .list xs => .ok (!xs.isEmpty)
  | .tuple xs => .ok (!xs.isEmpty)
  | .dict _ => .no
def tTru (f : Env → R Da) : Env → R Bool := fun r => (f r).bind truthD
theorem sz {n : Nat} (h : n ≤ 100000) : n ≤ sizeLine := Nat.le_trans h (by decide)
theorem szlt {n : Nat} (h : n < 100000) : n < sizeLine := Nat.lt_of_lt_of_le h (by decide)
theorem empty_of {K : PySem.W.Frag} {B : Hp} {vs : List V} {ds : List Da} (r : RepAll K B vs ds) : (!vs.isEmpty) = !ds.isEmpty := by
  cases r <;> rfl
theorem truth_ok {K : PySem.W.Frag} {B H : Hp} {v : V} {d : Da} {b : Bool} (l : Le B H) (h : Rr K B H v d) (e : truthD d = .ok b) : TruV K v H b := by
  cases d with
  | none =>
    cases e
    rw [h.none]
    exact rfl
  | bool c =>
    cases e
    rw [h.bool]
    exact rfl
  | int i =>
    cases e
    rw [h.int]
    exact rfl
  | str x =>
    rw [h.str]
    have e : (if x.length ≤ 100000 then R.ok (x.length != 0) else R.no) = R.ok b := e
    by_cases q : x.length ≤ 100000
    · rw [if_pos q] at e
      cases e
      refine ⟨sz q, ?_⟩
      cases hx : x.length with
      | zero => rfl
      | succ n =>
        have h1 : ((n + 1 : Nat) != 0) = true := by simp
        have h2 : (((n + 1 : Nat) : Int) != 0) = true := by
          rw [bne_iff_ne]
          omega
        rw [h1, h2]
    · rw [if_neg q] at e
      cases e
  | list ds =>
    cases e
    obtain ⟨p, xs, rfl, h1, h2⟩ := h.list l
    exact .inl ⟨xs, h1, (empty_of h2).symm⟩
  | tuple ds =>
    cases e
    obtain ⟨p, xs, rfl, h1, h2, h3⟩ := h.tuple l
    exact .inr (.inl ⟨xs, h1, (empty_of h3).symm⟩)
  | dict ds => cases e
theorem truth_no : ∀ (d : Da) (c : String), truthD d ≠ .er c := fun d c e => by
  cases d with
  | str x =>
    have e : (if x.length ≤ 100000 then R.ok (x.length != 0) else R.no) = R.er c := e
    by_cases q : x.length ≤ 100000
    · rw [if_pos q] at e
      cases e
    · rw [if_neg q] at e
      cases e
  | none => cases e
  | bool b => cases e
  | int b => cases e
  | tuple b => cases e
  | list b => cases e
  | dict b => cases e
theorem truth_post {B H : Hp} {σ : L2.St} {Q : Bool → Hp → Prop} {f : Env → R Da} {r : Env} (p : Pw cls B H σ W (WfT Q) (tTru f r)) : Pw cls B H σ W (WfR X.K fun v H' => ∃ k, TruV X.K v H' k ∧ Q k H') (f r) := by
  refine p.bind.imp fun d B' H' s q v hv => ?_
  cases e : truthD d with
  | ok b =>
    rw [e] at q
    exact ⟨b, truth_ok s.bh hv e, q B' H' (Stp.refl s.bh)⟩
  | er c => exact (truth_no d c e).elim
  | no =>
    rw [e] at q
    exact q.elim
theorem dt_tru {a : Expr} {fa : Env → R Da} (ha : DR cls X W a fa) (he : ∀ whole, isTrue a X.env whole = (do let v ← whole; standAt a.pos; holding [v] (truthy v)) := by intro _; rfl) : DT cls X W a (tTru fa) := by
  obtain ⟨ta, pa, ha⟩ := ha.run
  exact ⟨_, pt_truth pa he, fun F B H σ r Q k p => ha F B H σ r _ k (truth_post p)⟩
/-- a value that is a bool, as a test -/
theorem dt_val {a : Expr} {fa : Env → R Da} (ha : DE cls X W a fa) (he : ∀ whole, isTrue a X.env whole = (do let v ← whole; standAt a.pos; holding [v] (truthy v)) := by intro _; rfl) : DT cls X W a (tB fa) := by
  obtain ⟨ta, pa, ha⟩ := ha.run
  exact ⟨_, pt_val pa he, fun F B H σ r Q k p => ha F B H σ r _ k (tB_post p)⟩
def tNot (f : Env → R Bool) : Env → R Bool := fun r => (f r).bind fun b => .ok (!b)
def tAnd (f g : Env → R Bool) : Env → R Bool := fun r => (f r).bind fun b => if b then g r else .ok false
def tOr (f g : Env → R Bool) : Env → R Bool := fun r => (f r).bind fun b => if b then .ok true else g r
theorem dt_not {a : Expr} {f : Env → R Bool} {pos : Pos} (ha : DT cls X W a f) : DT cls X W (.UnaryOp .Not a pos) (tNot f) := by
  obtain ⟨ta, pa, ha⟩ := ha.run
  exact ⟨_, pt_not pa, fun F B H σ r Q k p => ha F B H σ r _ k (p.bind.imp fun b B' H' s q => q B' H' (Stp.refl s.bh))⟩
theorem DW.t {e : Expr} {f : Env → R Bool} (h : DW cls X W e f) : DT cls X W e f := by
  obtain ⟨t, ht, h⟩ := h.run
  exact ⟨t, ht.pt, h⟩
theorem dw_and1 {a : Expr} {f : Env → R Bool} {pos : Pos} (ha : DT cls X W a f) : DW cls X W (.BoolOp .And [a] pos) f := by
  obtain ⟨t, ht, h⟩ := ha.run
  exact ⟨t, pw_and1 ht, h⟩
theorem dw_or1 {a : Expr} {f : Env → R Bool} {pos : Pos} (ha : DT cls X W a f) : DW cls X W (.BoolOp .Or [a] pos) f := by
  obtain ⟨t, ht, h⟩ := ha.run
  exact ⟨t, pw_or1 ht, h⟩
theorem dw_and {a b : Expr} {rest : List Expr} {f g : Env → R Bool} {pos : Pos} (ha : DT cls X W a f) (hb : DW cls X W (.BoolOp .And (b :: rest) pos) g) : DW cls X W (.BoolOp .And (a :: b :: rest) pos) (tAnd f g) := by
  obtain ⟨ta, pa, ha⟩ := ha.run
  obtain ⟨tb, pb, hb⟩ := hb.run
  refine ⟨_, pw_and pa pb, fun F B H σ r Q k p => ha F B H σ r _ k (p.bind.imp fun b B' H' s q => ?_)⟩
  cases b with
  | true => exact hb F B' H' σ r Q (k.stp s) q
  | false => exact q B' H' (Stp.refl s.bh)
theorem dw_or {a b : Expr} {rest : List Expr} {f g : Env → R Bool} {pos : Pos} (ha : DT cls X W a f) (hb : DW cls X W (.BoolOp .Or (b :: rest) pos) g) : DW cls X W (.BoolOp .Or (a :: b :: rest) pos) (tOr f g) := by
  obtain ⟨ta, pa, ha⟩ := ha.run
  obtain ⟨tb, pb, hb⟩ := hb.run
  refine ⟨_, pw_or pa pb, fun F B H σ r Q k p => ha F B H σ r _ k (p.bind.imp fun b B' H' s q => ?_)⟩
  cases b with
  | true => exact q B' H' (Stp.refl s.bh)
  | false => exact hb F B' H' σ r Q (k.stp s) q
theorem dt_chain {op op' : CmpOp} {g g' : Da → Da → R Da} {a b c : Expr} {fa fb fc : Env → R Da} {pos : Pos} (ho : OpR X (compareOp op) (rD X.K g)) (ho' : OpR X (compareOp op') (rD X.K g')) (ha : DR cls X W a fa) (hb : DR cls X W b fb) (hc : DR cls X W c fc) (hm : lastMarks [op, op'] [b, c] = false := by with_unfolding_all rfl) :
    DT cls X W (.Compare a [op, op'] [b, c] pos) (tB (eChain g g' fa fb fc)) := by
  obtain ⟨ta, pa, ha⟩ := ha.run
  obtain ⟨tb, pb, hb⟩ := hb.run
  obtain ⟨tc, pc, hc⟩ := hc.run
  exact ⟨_, pt_chain ho ho' pa pb pc hm, fun F B H σ r Q k p => chain_run ha hb hc k (tB_post p)⟩
theorem de_chain {op op' : CmpOp} {g g' : Da → Da → R Da} {a b c : Expr} {fa fb fc : Env → R Da} {pos : Pos} (ho : OpR X (compareOp op) (rD X.K g)) (ho' : OpR X (compareOp op') (rD X.K g')) (ha : DR cls X W a fa) (hb : DR cls X W b fb) (hc : DR cls X W c fc) (hm : lastMarks [op, op'] [b, c] = false := by with_unfolding_all rfl) :
    DE cls X W (.Compare a [op, op'] [b, c] pos) (eChain g g' fa fb fc) := by
  obtain ⟨ta, pa, ha⟩ := ha.run
  obtain ⟨tb, pb, hb⟩ := hb.run
  obtain ⟨tc, pc, hc⟩ := hc.run
  exact ⟨_, pe_chain ho ho' pa pb pc hm, fun F B H σ r Q k p => chain_run ha hb hc k p⟩

/-! ### and, or, not, if as values -/
def eAnd (f g : Env → R Da) : Env → R Da := fun r => (f r).bind fun d => match d with
  | .bool true => g r
  | .bool false => .ok (.bool false)
  | _ => .no
def eOr (f g : Env → R Da) : Env → R Da := fun r => (f r).bind fun d => match d with
  | .bool true => .ok (.bool true)
  | .bool false => g r
  | _ => .no
def eNot (f : Env → R Bool) : Env → R Da := fun r => (f r).bind fun b => .ok (.bool (!b))
def eIf (c : Env → R Bool) (f g : Env → R Da) : Env → R Da := fun r => (c r).bind fun b => if b then f r else g r
theorem de_one {op : BoolOp} {a : Expr} {f : Env → R Da} {pos : Pos} (ha : DE cls X W a f) : DE cls X W (.BoolOp op [a] pos) f := by
  obtain ⟨t, ht, h⟩ := ha.run
  exact ⟨t, pe_one ht, h⟩
theorem de_and {a b : Expr} {rest : List Expr} {f g : Env → R Da} {pos : Pos} (ha : DE cls X W a f) (hb : DE cls X W (.BoolOp .And (b :: rest) pos) g) : DE cls X W (.BoolOp .And (a :: b :: rest) pos) (eAnd f g) := by
  obtain ⟨ta, pa, ha⟩ := ha.run
  obtain ⟨tb, pb, hb⟩ := hb.run
  refine ⟨_, pe_and pa pb, fun F B H σ r Q k p => ha F B H σ r _ k (p.bind.imp fun d B' H' s q v hv => ?_)⟩
  cases d with
  | bool b =>
    cases hv
    refine ⟨b, rfl, ?_⟩
    cases b with
    | true => exact hb F B' H' σ r Q (k.stp s) q
    | false => exact q B' H' (Stp.refl s.bh) _ (.bl false)
  | none => exact q.elim
  | int b => exact q.elim
  | str b => exact q.elim
  | tuple b => exact q.elim
  | list b => exact q.elim
  | dict b => exact q.elim
theorem de_or {a b : Expr} {rest : List Expr} {f g : Env → R Da} {pos : Pos} (ha : DE cls X W a f) (hb : DE cls X W (.BoolOp .Or (b :: rest) pos) g) : DE cls X W (.BoolOp .Or (a :: b :: rest) pos) (eOr f g) := by
  obtain ⟨ta, pa, ha⟩ := ha.run
  obtain ⟨tb, pb, hb⟩ := hb.run
  refine ⟨_, pe_or pa pb, fun F B H σ r Q k p => ha F B H σ r _ k (p.bind.imp fun d B' H' s q v hv => ?_)⟩
  cases d with
  | bool b =>
    cases hv
    refine ⟨b, rfl, ?_⟩
    cases b with
    | true => exact q B' H' (Stp.refl s.bh) _ (.bl true)
    | false => exact hb F B' H' σ r Q (k.stp s) q
  | none => exact q.elim
  | int b => exact q.elim
  | str b => exact q.elim
  | tuple b => exact q.elim
  | list b => exact q.elim
  | dict b => exact q.elim
theorem de_if {c a b : Expr} {f : Env → R Bool} {g h : Env → R Da} {pos : Pos} (hc : DT cls X W c f) (ha : DE cls X W a g) (hb : DE cls X W b h) : DE cls X W (.IfExp c a b pos) (eIf f g h) := by
  obtain ⟨tc, pc, hc⟩ := hc.run
  obtain ⟨ta, pa, ha⟩ := ha.run
  obtain ⟨tb, pb, hb⟩ := hb.run
  refine ⟨_, pe_ifExp pc pa pb, fun F B H σ r Q k p => hc F B H σ r _ k (p.bind.imp fun b B' H' s q => ?_)⟩
  cases b with
  | true => exact ha F B' H' σ r Q (k.stp s) q
  | false => exact hb F B' H' σ r Q (k.stp s) q
theorem dr_if {c a b : Expr} {f : Env → R Bool} {g h : Env → R Da} {pos : Pos} (hc : DT cls X W c f) (ha : DR cls X W a g) (hb : DR cls X W b h) : DR cls X W (.IfExp c a b pos) (eIf f g h) := by
  obtain ⟨tc, pc, hc⟩ := hc.run
  obtain ⟨ta, pa, ha⟩ := ha.run
  obtain ⟨tb, pb, hb⟩ := hb.run
  refine ⟨_, pe_ifExp pc pa pb, fun F B H σ r Q k p => hc F B H σ r _ k (p.bind.imp fun b B' H' s q => ?_)⟩
  cases b with
  | true => exact ha F B' H' σ r Q (k.stp s) q
  | false => exact hb F B' H' σ r Q (k.stp s) q

/-! ### arguments, displays -/
def aNil : Env → R (List Da) := fun _ => .ok []
def aCons (f : Env → R Da) (g : Env → R (List Da)) : Env → R (List Da) := fun r => (f r).bind fun d => (g r).bind fun ds => .ok (d :: ds)
theorem da_nil : DA cls X W [] aNil := ⟨_, pa_nil, fun F B H σ r Q k p => p B H (Stp.refl k.bh) [] .nil⟩
theorem db_nil : DB cls X W [] aNil := ⟨_, pa_nil, fun F B H σ r Q k p => p B H (Stp.refl k.bh) [] .nil⟩
theorem da_cons {e : Expr} {es : List Expr} {f : Env → R Da} {g : Env → R (List Da)} (ha : DE cls X W e f) (hb : DA cls X W es g) (hs : starEach (e :: es) X.env = (false, eval e X.env) :: starEach es X.env := by rfl) : DA cls X W (e :: es) (aCons f g) := by
  obtain ⟨ta, pa, ha⟩ := ha.run
  obtain ⟨tb, pb, hb⟩ := hb.run
  exact ⟨_, pa_cons pa pb hs, fun F B H σ r Q k p => ha F B H σ r _ k (p.bind.imp fun d B1 H1 s1 p1 v hv => hb F B1 H1 σ r _ (k.stp s1) (p1.bind.imp fun ds B2 H2 s2 p2 vs hvs => p2 B2 H2 (Stp.refl s2.bh) _ (.cons (hv.mono s2.gr.1) hvs)))⟩
theorem db_cons {e : Expr} {es : List Expr} {f : Env → R Da} {g : Env → R (List Da)} (ha : DR cls X W e f) (hb : DB cls X W es g) (hs : starEach (e :: es) X.env = (false, eval e X.env) :: starEach es X.env := by rfl) : DB cls X W (e :: es) (aCons f g) := by
  obtain ⟨ta, pa, ha⟩ := ha.run
  obtain ⟨tb, pb, hb⟩ := hb.run
  exact ⟨_, pa_cons pa pb hs, fun F B H σ r Q k p => ha F B H σ r _ k (p.bind.imp fun d B1 H1 s1 p1 v hv => hb F B1 H1 σ r _ (k.stp s1) (p1.bind.imp fun ds B2 H2 s2 p2 vs hvs => p2 B2 H2 (Stp.refl s2.bh) _ (.cons (hv.stp s2) hvs)))⟩
def mkT (ds : List Da) : R Da := if ds.length ≤ 100000 then .ok (.tuple ds) else .no
def mkL (ds : List Da) : R Da := if ds.length ≤ 100000 then .ok (.list ds) else .no
def eTup (f : Env → R (List Da)) : Env → R Da := fun r => (f r).bind mkT
def eLst (f : Env → R (List Da)) : Env → R Da := fun r => (f r).bind mkL
theorem de_tup {es : List Expr} {f : Env → R (List Da)} {n : Nat} {pos : Pos} (h : DA cls X W es f) : DE cls X W (.Tuple es n pos) (eTup f) := by
  obtain ⟨t, ht, h⟩ := h.run
  refine ⟨_, pe_tup (x1 := n) ht, fun F B H σ r Q k p => h F B H σ r _ k (p.bind.imp fun ds B' H' s q vs hv => ?_)⟩
  unfold mkT at q
  split at q
  · rename_i hl
    refine ⟨by rw [hv.length]; exact sz hl, fun a ha => q (upd B' a (.tup vs)) _ (Stp.new s.bh ha) _ (.tup (.inl (.inl upd_same)) (hv.mono (Le.new (s.bh.back ha))))⟩
  · exact q.elim
theorem df_lst {es : List Expr} {f : Env → R (List Da)} {pos : Pos} (h : DA cls X W es f) : DF cls X W (.List es pos) (eLst f) := by
  obtain ⟨t, ht, h⟩ := h.run
  refine ⟨_, pe_lst ht, fun F B H σ r Q k p => h F B H σ r _ k (p.bind.imp fun ds B' H' s q vs hv => ?_)⟩
  unfold mkL at q
  split at q
  · rename_i hl
    refine ⟨by rw [hv.length]; exact sz hl, fun a ha => q B' _ (Stp.drop s.bh ha) a (s.hh.back ha) (s.bh.back ha) ⟨vs, upd_same, hv⟩⟩
  · exact q.elim
end
end Mi

/-! Mi2: statements. -/
namespace Mi
open PySem PySem.Spec PyProof.Rows L2

def Ps (K : PySem.W.Frag) (cls : String → Value) (F B : Hp) (D : Ends) (W : WX) : SR → Prop
  | .nx r => ∀ B' H' σ', Gr F B B' → Ok K F B' H' σ' r → D.nx σ' H'
  | .rt d => ∀ B' H' v, Gr F B B' → Le B' H' → Le F H' → Rep K B' v d → D.rt v H'
  | .bk r => ∀ B' H' σ', Gr F B B' → Ok K F B' H' σ' r → D.bk σ' H'
  | .ct r => ∀ B' H' σ', Gr F B B' → Ok K F B' H' σ' r → D.ct σ' H'
  | .er c r => ∀ B' H' σ', Gr F B B' → Ok K F B' H' σ' r → W (cls c) none σ' H'
  | .no => False
section
variable {K : PySem.W.Frag} {cls : String → Value} {F B B' H H' : Hp} {D : Ends} {W : WX} {σ : L2.St} {r : Env}
theorem Ps.gr {x : SR} (p : Ps K cls F B D W x) (g : Gr F B B') : Ps K cls F B' D W x := by
  cases x with
  | nx r => exact fun B2 H2 σ2 g2 k => p B2 H2 σ2 (g.trans g2) k
  | rt d => exact fun B2 H2 v g2 a b k => p B2 H2 v (g.trans g2) a b k
  | bk r => exact fun B2 H2 σ2 g2 k => p B2 H2 σ2 (g.trans g2) k
  | ct r => exact fun B2 H2 σ2 g2 k => p B2 H2 σ2 (g.trans g2) k
  | er c r => exact fun B2 H2 σ2 g2 k => p B2 H2 σ2 (g.trans g2) k
  | no => exact p
/-- an expression's answer, then a statement's -/
def bS {α : Type} (r : Env) (x : R α) (g : α → SR) : SR := match x with
  | .ok a => g a
  | .er c => .er c r
  | .no => .no
theorem Ps.bS {α : Type} {x : R α} {g : α → SR} (p : Ps K cls F B D W (bS r x g)) (k : Ok K F B H σ r) : Pw cls B H σ W (fun a B' H' => Ps K cls F B' D W (g a)) x := by
  cases x with
  | ok a => exact fun B2 H2 s => Ps.gr p (s.grF k.fh)
  | er c => exact fun B2 H2 s => p B2 H2 σ (s.grF k.fh) (k.stp s)
  | no => exact p
theorem Ok.setF {i : Nat} {v : V} {d : Da} (k : Ok K F B H σ r) (h : Rep K B v d) : Ok K F B H (σ.set i (some v)) (r.set i (.fz d)) := by
  refine ⟨k.bh, k.fh, by rw [List.length_set, List.length_set]; exact k.len, fun j s e => ?_, fun j l d1 d2 p ne e1 e2 h1 h2 => ?_⟩
  · by_cases hj : i = j
    · subst hj
      by_cases hl : i < r.length
      · rw [List.getElem?_set_self hl] at e
        cases e
        exact ⟨v, List.getElem?_set_self (by rw [k.len]; exact hl), h⟩
      · rw [List.getElem?_eq_none (by rw [List.length_set]; omega)] at e
        cases e
    · rw [List.getElem?_set_ne hj] at e
      have q := k.sl j s e
      cases s with
      | un => trivial
      | fz d => obtain ⟨v, a, b⟩ := q; exact ⟨v, by rw [List.getElem?_set_ne hj]; exact a, b⟩
      | ow d => obtain ⟨v, a, b⟩ := q; exact ⟨v, by rw [List.getElem?_set_ne hj]; exact a, b⟩
  · have nj : i ≠ j := fun z => by
      subst z
      by_cases hl : i < r.length
      · rw [List.getElem?_set_self hl] at e1
        cases e1
      · rw [List.getElem?_eq_none (by rw [List.length_set]; omega)] at e1
        cases e1
    have nl : i ≠ l := fun z => by
      subst z
      by_cases hl : i < r.length
      · rw [List.getElem?_set_self hl] at e2
        cases e2
      · rw [List.getElem?_eq_none (by rw [List.length_set]; omega)] at e2
        cases e2
    rw [List.getElem?_set_ne nj] at e1 h1
    rw [List.getElem?_set_ne nl] at e2 h2
    exact k.inj j l d1 d2 p ne e1 e2 h1 h2
theorem OwnD.at {p : Addr} {d : Da} (h : OwnD K B H p d) (e : H' p = H p) : OwnD K B H' p d := by
  cases d with
  | list ds => obtain ⟨xs, a, b⟩ := h; exact ⟨xs, by rw [e]; exact a, b⟩
  | dict ds => obtain ⟨xs, a, b⟩ := h; exact ⟨xs, by rw [e]; exact a, b⟩
  | none => exact h.elim
  | bool b => exact h.elim
  | int b => exact h.elim
  | str b => exact h.elim
  | tuple b => exact h.elim
/-- slot i comes to own the object at p, which no other slot owns -/
theorem Ok.setO {i : Nat} {p : Addr} {d : Da} (k : Ok K F B H σ r) (bh : Le B H') (fh : Le F H') (fp : F p = none) (bp : B p = none) (o : OwnD K B H' p d)
    (ot : ∀ (j : Nat) (e : Da) (q : Addr), j ≠ i → r[j]? = some (.ow e) → σ[j]? = some (some (.ref q)) → q ≠ p ∧ H' q = H q) : Ok K F B H' (σ.set i (some (.ref p))) (r.set i (.ow d)) := by
  refine ⟨bh, fh, by rw [List.length_set, List.length_set]; exact k.len, fun j s e => ?_, fun j l d1 d2 q ne e1 e2 h1 h2 => ?_⟩
  · by_cases hj : i = j
    · subst hj
      by_cases hl : i < r.length
      · rw [List.getElem?_set_self hl] at e
        cases e
        exact ⟨p, List.getElem?_set_self (by rw [k.len]; exact hl), fp, bp, o⟩
      · rw [List.getElem?_eq_none (by rw [List.length_set]; omega)] at e
        cases e
    · rw [List.getElem?_set_ne hj] at e
      have q := k.sl j s e
      cases s with
      | un => trivial
      | fz d => obtain ⟨v, a, b⟩ := q; exact ⟨v, by rw [List.getElem?_set_ne hj]; exact a, b⟩
      | ow d =>
        obtain ⟨v, a, b1, b2, b3⟩ := q
        exact ⟨v, by rw [List.getElem?_set_ne hj]; exact a, b1, b2, b3.at (ot j d v (Ne.symm hj) e a).2⟩
  · by_cases hj : i = j
    · subst hj
      rw [List.getElem?_set_ne ne] at e2 h2
      by_cases hl : i < r.length
      · rw [List.getElem?_set_self (by rw [k.len]; exact hl)] at h1
        cases h1
        exact (ot l d2 p (Ne.symm ne) e2 h2).1 rfl
      · rw [List.getElem?_eq_none (by rw [List.length_set]; omega)] at e1
        cases e1
    · by_cases hl : i = l
      · subst hl
        rw [List.getElem?_set_ne hj] at e1 h1
        by_cases hl : i < r.length
        · rw [List.getElem?_set_self (by rw [k.len]; exact hl)] at h2
          cases h2
          exact (ot j d1 p (Ne.symm hj) e1 h1).1 rfl
        · rw [List.getElem?_eq_none (by rw [List.length_set]; omega)] at e2
          cases e2
      · rw [List.getElem?_set_ne hj] at e1 h1
        rw [List.getElem?_set_ne hl] at e2 h2
        exact k.inj j l d1 d2 q ne e1 e2 h1 h2
/-- .. a new one -/
theorem Ok.own {i : Nat} {p : Addr} {d : Da} {H0 : Hp} (k : Ok K F B H0 σ r) (s : Stp B H0 B' H') (n : H0 p = none) (bp : B' p = none) (o : OwnD K B' H' p d) : Ok K F B' H' (σ.set i (some (.ref p))) (r.set i (.ow d)) := by
  have k' := k.stp s
  refine k'.setO k'.bh k'.fh (k.fh.back n) bp o fun j e q _ e1 e2 => ⟨fun z => ?_, rfl⟩
  subst z
  have h := k.sl j _ e1
  obtain ⟨p', a, b1, b2, b3⟩ := h
  rw [e2] at a
  cases a
  obtain ⟨u, hu⟩ := b3.there
  rw [n] at hu
  cases hu
/-- .. its own object with other contents -/
theorem Ok.put {i : Nat} {p : Addr} {o' : HO} {d0 d : Da} (k : Ok K F B H σ r) (e0 : r[i]? = some (.ow d0)) (h0 : σ[i]? = some (some (.ref p))) (o : OwnD K B (upd H p o') p d) : Ok K F B (upd H p o') σ (r.set i (.ow d)) := by
  have h := k.sl i _ e0
  obtain ⟨p', a, b1, b2, b3⟩ := h
  rw [h0] at a
  cases a
  have es : σ.set i (some (.ref p)) = σ := by
    refine List.ext_getElem? fun j => ?_
    by_cases hj : i = j
    · subst hj
      have hl : i < σ.length := (List.getElem?_eq_some_iff.mp h0).1
      rw [List.getElem?_set_self hl, h0]
    · rw [List.getElem?_set_ne hj]
  have q := k.setO (i := i) (p := p) (d := d) (H' := upd H p o') (k.bh.put b2) (k.fh.put b1) b1 b2 o fun j e q hj e1 e2 => by
    have ne : q ≠ p := fun z => by
      subst z
      exact k.inj i j d0 e q (Ne.symm hj) e0 e1 h0 e2
    exact ⟨ne, upd_ne ne⟩
  rw [es] at q
  exact q
theorem Ok.drop {i : Nat} (k : Ok K F B H σ r) : Ok K F B H σ (r.set i .un) := by
  refine ⟨k.bh, k.fh, by rw [List.length_set]; exact k.len, fun j s e => ?_, fun j l d1 d2 p ne e1 e2 h1 h2 => ?_⟩
  · by_cases hj : i = j
    · subst hj
      by_cases hl : i < r.length
      · rw [List.getElem?_set_self hl] at e
        cases e
        trivial
      · rw [List.getElem?_eq_none (by rw [List.length_set]; omega)] at e
        cases e
    · rw [List.getElem?_set_ne hj] at e
      exact k.sl j s e
  · have nj : i ≠ j := fun z => by
      subst z
      by_cases hl : i < r.length
      · rw [List.getElem?_set_self hl] at e1
        cases e1
      · rw [List.getElem?_eq_none (by rw [List.length_set]; omega)] at e1
        cases e1
    have nl : i ≠ l := fun z => by
      subst z
      by_cases hl : i < r.length
      · rw [List.getElem?_set_self hl] at e2
        cases e2
      · rw [List.getElem?_eq_none (by rw [List.length_set]; omega)] at e2
        cases e2
    rw [List.getElem?_set_ne nj] at e1
    rw [List.getElem?_set_ne nl] at e2
    exact k.inj j l d1 d2 p ne e1 e2 h1 h2
/-- the owned object of slot i is frozen -/
theorem Ok.frz {i : Nat} {p : Addr} {o : HO} {d0 d : Da} (k : Ok K F B H σ r) (e0 : r[i]? = some (.ow d0)) (h0 : σ[i]? = some (some (.ref p))) (bp : B p = none) (fp : F p = none) (ho : H' p = some o) (hk : ∀ a, a ≠ p → H' a = H a) (hr : Rep K (upd B p o) (.ref p) d) :
    Gr F B (upd B p o) ∧ Ok K F (upd B p o) H' σ (r.set i (.fz d)) := by
  have l : Le B (upd B p o) := Le.new bp
  refine ⟨⟨l, fun a u e => upd_ne (ne_of_none e fp)⟩, fun a u e => ?_, fun a u e => ?_, by rw [List.length_set]; exact k.len, fun j s e => ?_, fun j m d1 d2 q ne e1 e2 h1 h2 => ?_⟩
  · by_cases q : a = p
    · subst q
      rw [upd_same] at e
      rw [ho, e]
    · rw [upd_ne q] at e
      rw [hk a q]
      exact k.bh a u e
  · rw [hk a (ne_of_none e fp)]
    exact k.fh a u e
  · by_cases hj : i = j
    · subst hj
      by_cases hl : i < r.length
      · rw [List.getElem?_set_self hl] at e
        cases e
        exact ⟨.ref p, h0, hr⟩
      · rw [List.getElem?_eq_none (by rw [List.length_set]; omega)] at e
        cases e
    · rw [List.getElem?_set_ne hj] at e
      have q := k.sl j s e
      cases s with
      | un => trivial
      | fz d => obtain ⟨v, a, b⟩ := q; exact ⟨v, a, b.mono l⟩
      | ow d =>
        obtain ⟨v, a, b1, b2, b3⟩ := q
        have ne : v ≠ p := fun z => by
          subst z
          exact k.inj i j d0 d v hj e0 e h0 a
        refine ⟨v, a, b1, by rw [upd_ne ne]; exact b2, ?_⟩
        have b4 : OwnD K B H' v d := b3.at (hk v ne)
        cases d with
        | list ds => obtain ⟨xs, a, b⟩ := b4; exact ⟨xs, a, b.mono l⟩
        | dict ds => obtain ⟨xs, a, b⟩ := b4; exact ⟨xs, a, b.mono l⟩
        | none => exact b4.elim
        | bool b => exact b4.elim
        | int b => exact b4.elim
        | str b => exact b4.elim
        | tuple b => exact b4.elim
  · have nj : i ≠ j := fun z => by
      subst z
      by_cases hl : i < r.length
      · rw [List.getElem?_set_self hl] at e1
        cases e1
      · rw [List.getElem?_eq_none (by rw [List.length_set]; omega)] at e1
        cases e1
    have nl : i ≠ m := fun z => by
      subst z
      by_cases hl : i < r.length
      · rw [List.getElem?_set_self hl] at e2
        cases e2
      · rw [List.getElem?_eq_none (by rw [List.length_set]; omega)] at e2
        cases e2
    rw [List.getElem?_set_ne nj] at e1
    rw [List.getElem?_set_ne nl] at e2
    exact k.inj j m d1 d2 q ne e1 e2 h1 h2
end

section
variable (cls : String → Value) (X : Cx) (W : WX)
structure DS (st : Stmt) (g : Env → SR) : Prop where
  run : ∃ t, PS X st t ∧ ∀ (F B H : Hp) (σ : L2.St) (r : Env) (D : Ends), Ok X.K F B H σ r → Ps X.K cls F B D W (g r) → t D σ H
structure DSs (sts : List Stmt) (g : Env → SR) : Prop where
  run : ∃ t, PSs X sts t ∧ ∀ (F B H : Hp) (σ : L2.St) (r : Env) (D : Ends), Ok X.K F B H σ r → Ps X.K cls F B D W (g r) → t D σ H
/-- a target, given a frozen value -/
structure DG (tg : Expr) (g : Da → Env → Option Env) : Prop where
  run : ∃ t, PG X tg t ∧ ∀ (F B H : Hp) (σ : L2.St) (r r' : Env) (v : V) (d : Da) (Q : L2.St → Hp → Prop), Ok X.K F B H σ r → Rep X.K B v d → g d r = some r' → (∀ σ', Ok X.K F B H σ' r' → Q σ' H) → t v σ H Q
structure DGs (ts : List Expr) (g : List Da → Env → Option Env) : Prop where
  run : ∃ t, PGs X ts t ∧ ∀ (F B H : Hp) (σ : L2.St) (r r' : Env) (vs : List V) (ds : List Da) (Q : L2.St → Hp → Prop), Ok X.K F B H σ r → RepAll X.K B vs ds → g ds r = some r' → (∀ σ', Ok X.K F B H σ' r' → Q σ' H) → t vs σ H Q
end

section
variable {cls : String → Value} {X : Cx} {W : WX}
/-! ### blocks -/
def sNil : Env → SR := fun r => .nx r
def sSeq (f g : Env → SR) : Env → SR := fun r => match f r with
  | .nx r' => g r'
  | x => x
theorem dss_nil : DSs cls X W [] sNil := ⟨_, pss_nil, fun F B H σ r D k p => p B H σ (Gr.refl _ _) k⟩
theorem seq_post {K : PySem.W.Frag} {F B : Hp} {D : Ends} {f g : Env → SR} {r : Env} {tu : TS} (p : Ps K cls F B D W (sSeq f g r)) (h : ∀ (F B H : Hp) (σ : L2.St) (r : Env) (D : Ends), Ok K F B H σ r → Ps K cls F B D W (g r) → tu D σ H) :
    Ps K cls F B { D with nx := tu D } W (f r) := by
  unfold sSeq at p
  cases q : f r with
  | nx r' =>
    rw [q] at p
    exact fun B' H' σ' gr k => h F B' H' σ' r' D k (Ps.gr p gr)
  | rt d => rw [q] at p; exact p
  | bk d => rw [q] at p; exact p
  | ct d => rw [q] at p; exact p
  | er c d => rw [q] at p; exact p
  | no => rw [q] at p; exact p
theorem dss_cons {st : Stmt} {rest : List Stmt} {f g : Env → SR} (h1 : DS cls X W st f) (h2 : DSs cls X W rest g) : DSs cls X W (st :: rest) (sSeq f g) := by
  obtain ⟨t, pt, h1⟩ := h1.run
  obtain ⟨u, pu, h2⟩ := h2.run
  exact ⟨_, pss_cons pt pu, fun F B H σ r D k p => h1 F B H σ r _ k (seq_post p h2)⟩
theorem dss_one {st : Stmt} {f : Env → SR} (h1 : DS cls X W st f) : DSs cls X W [st] f := by
  obtain ⟨t, pt, h1⟩ := h1.run
  exact ⟨_, pss_one pt, h1⟩
theorem ds_pass {pos : Pos} : DS cls X W (.Pass pos) sNil := ⟨_, ps_pass, fun F B H σ r D k p => p B H σ (Gr.refl _ _) k⟩
def sBk : Env → SR := fun r => .bk r
def sCt : Env → SR := fun r => .ct r
theorem ds_break {pos : Pos} : DS cls X W (.Break pos) sBk := ⟨_, ps_break, fun F B H σ r D k p => p B H σ (Gr.refl _ _) k⟩
theorem ds_continue {pos : Pos} : DS cls X W (.Continue pos) sCt := ⟨_, ps_continue, fun F B H σ r D k p => p B H σ (Gr.refl _ _) k⟩
/-- code that is never come to -/
def sNo : Env → SR := fun _ => .no
theorem ds_no {st : Stmt} : DS cls X W st sNo := ⟨_, ps_never, fun F B H σ r D k p => p.elim⟩
theorem dss_no {sts : List Stmt} : DSs cls X W sts sNo := ⟨_, pss_never, fun F B H σ r D k p => p.elim⟩
def sExp (f : Env → R Da) : Env → SR := fun r => bS r (f r) fun _ => .nx r
theorem ds_expr {e : Expr} {f : Env → R Da} {pos : Pos} (he : DE cls X W e f) (hs : swapsWith e none pos.line X.env = pure false := by rfl) : DS cls X W (.Expr e pos) (sExp f) := by
  obtain ⟨t, pt, h⟩ := he.run
  exact ⟨_, ps_expr pt hs, fun F B H σ r D k p => h F B H σ r _ k ((Ps.bS p k).imp fun d B' H' s q v hv => q B' H' σ (Gr.refl _ _) (k.stp s))⟩
def sRet (f : Env → R Da) : Env → SR := fun r => bS r (f r) .rt
theorem ds_ret {e : Expr} {f : Env → R Da} {pos : Pos} (he : DE cls X W e f) : DS cls X W (.Return (some e) pos) (sRet f) := by
  obtain ⟨t, pt, h⟩ := he.run
  exact ⟨_, ps_ret pt, fun F B H σ r D k p => h F B H σ r _ k ((Ps.bS p k).imp fun d B' H' s q v hv => q B' H' v (Gr.refl _ _) s.bh (k.fh.trans s.hh) hv)⟩
def sRetN : Env → SR := fun _ => .rt .none
theorem ds_retN {pos : Pos} : DS cls X W (.Return none pos) sRetN := ⟨_, ps_retN, fun F B H σ r D k p => p B H _ (Gr.refl _ _) k.bh k.fh .non⟩
def sIf (c : Env → R Bool) (f g : Env → SR) : Env → SR := fun r => bS r (c r) fun b => if b then f r else g r
theorem ds_if {c : Expr} {a b : List Stmt} {f : Env → R Bool} {g h : Env → SR} {pos : Pos} (hc : DT cls X W c f) (ha : DSs cls X W a g) (hb : DSs cls X W b h) : DS cls X W (.If c a b pos) (sIf f g h) := by
  obtain ⟨tc, pc, hc⟩ := hc.run
  obtain ⟨ta, pa, ha⟩ := ha.run
  obtain ⟨tb, pb, hb⟩ := hb.run
  refine ⟨_, ps_if pc pa pb, fun F B H σ r D k p => hc F B H σ r _ k ((Ps.bS p k).imp fun b B' H' s q => ?_)⟩
  cases b with
  | true => exact ha F B' H' σ r D (k.stp s) q
  | false => exact hb F B' H' σ r D (k.stp s) q

/-! ### names stored -/
def sSet (i : Nat) (f : Env → R Da) : Env → SR := fun r => bS r (f r) fun d => .nx (r.set i (.fz d))
def sOwn (i : Nat) (f : Env → R Da) : Env → SR := fun r => bS r (f r) fun d => .nx (r.set i (.ow d))
theorem ds_set (i : Nat) {x : Str} {e : Expr} {f : Env → R Da} {pos pos' : Pos} (hN : X.N.Nodup) (he : DE cls X W e f) (hi : X.N[i]? = some x := by rfl) (hx : Loc X.env.scope x := by first | exact Or.inl rfl | exact Or.inr rfl)
    (hs : swapsWith e (some (.Name x pos')) pos.line X.env = pure false := by rfl) (hf : X.fn x = true ∨ X.env.scope.names.lookup x = some .local := by first | exact .inl rfl | exact .inr rfl) : DS cls X W (.Assign [.Name x pos'] e pos) (sSet i f) := by
  obtain ⟨t, pt, h⟩ := he.run
  exact ⟨_, ps_set hN hi hx pt hs hf, fun F B H σ r D k p => h F B H σ r _ k ((Ps.bS p k).imp fun d B' H' s q v hv => q B' H' _ (Gr.refl _ _) ((k.stp s).setF hv))⟩
theorem ds_own (i : Nat) {x : Str} {e : Expr} {f : Env → R Da} {pos pos' : Pos} (hN : X.N.Nodup) (he : DF cls X W e f) (hi : X.N[i]? = some x := by rfl) (hx : Loc X.env.scope x := by first | exact Or.inl rfl | exact Or.inr rfl)
    (hs : swapsWith e (some (.Name x pos')) pos.line X.env = pure false := by rfl) (hf : X.fn x = true ∨ X.env.scope.names.lookup x = some .local := by first | exact .inl rfl | exact .inr rfl) : DS cls X W (.Assign [.Name x pos'] e pos) (sOwn i f) := by
  obtain ⟨t, pt, h⟩ := he.run
  exact ⟨_, ps_set hN hi hx pt hs hf, fun F B H σ r D k p => h F B H σ r _ k ((Ps.bS p k).imp fun d B' H' s q v n b o => q B' H' _ (Gr.refl _ _) (k.own s n b o))⟩
/-- x op= e, ints -/
def dAugI (g : Int → Int → Int) : Da → Da → R Da
  | .int i, .int j => .ok (.int (g i j))
  | _, _ => .no
def sAug (i : Nat) (g : Int → Int → Int) (f : Env → R Da) : Env → SR := fun r => match r[i]? with
  | some (.fz (.int a)) => bS r (f r) fun d => match d with
    | .int b => .nx (r.set i (.fz (.int (g a b))))
    | _ => .no
  | _ => .no
theorem ds_aug (i : Nat) {x : Str} {e : Expr} {f : Env → R Da} {op : Operator} {g : Int → Int → Int} {pos pos' : Pos} (hN : X.N.Nodup) (he : DE cls X W e f) (ho : PIp X op (ipI g)) (hi : X.N[i]? = some x := by rfl) (hx : Loc X.env.scope x := by first | exact Or.inl rfl | exact Or.inr rfl)
    (hf : X.fn x = true ∨ X.env.scope.names.lookup x = some .local := by first | exact .inl rfl | exact .inr rfl) : DS cls X W (.AugAssign (.Name x pos') op e pos) (sAug i g f) := by
  obtain ⟨t, pt, h⟩ := he.run
  refine ⟨_, ps_aug hN hi hx pt ho hf, fun F B H σ r D k p => ?_⟩
  unfold sAug at p
  split at p
  · rename_i a e
    obtain ⟨v, h1, h2⟩ := k.rd e
    cases h2
    refine ⟨_, h1, h F B H σ r _ k ((Ps.bS p k).imp fun d B' H' s q v hv => ?_)⟩
    cases d with
    | int b =>
      cases hv
      exact ⟨a, b, rfl, rfl, q B' H' _ (Gr.refl _ _) ((k.stp s).setF (.int _))⟩
    | none => exact q.elim
    | bool b => exact q.elim
    | str b => exact q.elim
    | tuple b => exact q.elim
    | list b => exact q.elim
    | dict b => exact q.elim
  · exact p.elim

/-! ### targets -/
def gNm (i : Nat) : Da → Env → Option Env := fun d r => some (r.set i (.fz d))
def gsNil : List Da → Env → Option Env := fun ds r => match ds with
  | [] => some r
  | _ => none
def gsCons (g : Da → Env → Option Env) (gs : List Da → Env → Option Env) : List Da → Env → Option Env := fun ds r => match ds with
  | d :: ds => (g d r).bind (gs ds)
  | [] => none
def gTp (gs : List Da → Env → Option Env) (n : Nat) : Da → Env → Option Env := fun d r => match d with
  | .tuple ds => if ds.length = n then gs ds r else none
  | _ => none
theorem dg_name (i : Nat) {x : Str} {pos : Pos} (hN : X.N.Nodup) (hi : X.N[i]? = some x := by rfl) (hx : Loc X.env.scope x := by first | exact Or.inl rfl | exact Or.inr rfl)
    (hf : X.fn x = true ∨ X.env.scope.names.lookup x = some .local := by first | exact .inl rfl | exact .inr rfl) : DG X (.Name x pos) (gNm i) := by
  refine ⟨_, pg_name hN hi hx hf, fun F B H σ r r' v d Q k hv e q => ?_⟩
  cases e
  exact q _ (k.setF hv)
theorem dgs_nil : DGs X [] gsNil := by
  refine ⟨_, pgs_nil, fun F B H σ r r' vs ds Q k hv e q => ?_⟩
  cases hv with
  | nil =>
    cases e
    exact ⟨rfl, q σ k⟩
  | cons h h' => cases e
theorem dgs_cons {e : Expr} {es : List Expr} {g : Da → Env → Option Env} {gs : List Da → Env → Option Env} (h1 : DG X e g) (h2 : DGs X es gs) (hs : (assignEach (e :: es) X.env).map (·.2) = assign e X.env :: (assignEach es X.env).map (·.2) := by rfl) : DGs X (e :: es) (gsCons g gs) := by
  obtain ⟨t, pt, h1⟩ := h1.run
  obtain ⟨u, pu, h2⟩ := h2.run
  refine ⟨_, pgs_cons pt pu hs, fun F B H σ r r' vs ds Q k hv e q => ?_⟩
  cases hv with
  | nil => cases e
  | cons h h' =>
    rename_i v vs d ds
    have e : (g d r).bind (gs ds) = some r' := e
    cases hg : g d r with
    | none => rw [hg] at e; cases e
    | some r1 =>
      rw [hg] at e
      exact ⟨v, vs, rfl, h1 F B H σ r r1 v d _ k h hg fun σ1 k1 => h2 F B H σ1 r1 r' vs ds Q k1 h' e q⟩
theorem dg_tup {es : List Expr} {k0 : Nat} {gs : List Da → Env → Option Env} {n : Nat} {pos : Pos} (h : DGs X es gs) (hc : X.calm = true := by rfl) (hn : (assignEach es X.env).length = n := by rfl) (hst : (assignEach es X.env).findIdx? (·.1) = none := by rfl) : DG X (.Tuple es k0 pos) (gTp gs n) := by
  obtain ⟨u, pu, h2⟩ := h.run
  refine ⟨_, pg_tup (k := k0) hc pu hn hst, fun F B H σ r r' v d Q k hv e q => ?_⟩
  cases d with
  | tuple ds =>
    have e : (if ds.length = n then gs ds r else none) = some r' := e
    by_cases hl : ds.length = n
    · rw [if_pos hl] at e
      cases hv with
      | tup hs hr => exact ⟨_, _, rfl, k.bh.st hs, by rw [hr.length]; exact hl, h2 F B H σ r r' _ ds Q k hr e q⟩
    · rw [if_neg hl] at e
      cases e
  | none => cases e
  | bool b => cases e
  | int b => cases e
  | str b => cases e
  | list b => cases e
  | dict b => cases e
/-- (a, b) = e -/
def sAsg (f : Env → R Da) (g : Da → Env → Option Env) : Env → SR := fun r => bS r (f r) fun d => match g d r with
  | some r' => .nx r'
  | none => .no
theorem ds_asg {tg e : Expr} {f : Env → R Da} {g : Da → Env → Option Env} {pos : Pos} (he : DE cls X W e f) (hg : DG X tg g) (hs : swapsWithSole [tg] e pos.line X.env = pure false := by rfl) (hw : swappedStores [tg] e X.env = pure none := by rfl)
    (h1 : (assignEach [tg] X.env).map (·.2) = [assign tg X.env] := by rfl) : DS cls X W (.Assign [tg] e pos) (sAsg f g) := by
  obtain ⟨t, pt, he⟩ := he.run
  obtain ⟨u, pu, hg⟩ := hg.run
  refine ⟨_, ps_asg pt pu hs hw h1, fun F B H σ r D k p => he F B H σ r _ k ((Ps.bS p k).imp fun d B' H' s q v hv => ?_)⟩
  cases e : g d r with
  | none => rw [e] at q; exact q.elim
  | some r' =>
    rw [e] at q
    exact hg F B' H' σ r r' v d _ (k.stp s) hv e fun σ' k' => q B' H' σ' (Gr.refl _ _) k'
end
end Mi

/-! Mi3: walks: for, comprehensions, while; calls and defs; an own list changed. -/
namespace Mi
open PySem PySem.Spec PyProof.Rows L2

/-- an iterator yields these data, as long as what was frozen at its making stands -/
structure Yl (K : PySem.W.Frag) (J : It) (B0 : Hp) (ds : List Da) : Prop where
  go : ∀ i H, i < ds.length → Le B0 H → J.go i H
  st : ∀ H, Le B0 H → J.stop ds.length H
  yd : ∀ i H x H' d B, ds[i]? = some d → Le B0 B → Le B H → J.yld i H x H' → ∃ B', Stp B H B' H' ∧ Rep K B' x d
abbrev WfI (K : PySem.W.Frag) (Rr : It → Hp → Prop) : List Da → Hp → Hp → Prop := fun ds B' H' => ∀ J, Yl K J B' ds → Rr J H'
structure DI (cls : String → Value) (X : Cx) (W : WX) (tg iter : Expr) (f : Env → R (List Da)) : Prop where
  run : ∃ wi, PI X tg iter wi ∧ ∀ (F B H : Hp) (σ : L2.St) (r : Env) (Q : It → Hp → Prop), Ok X.K F B H σ r → Pw cls B H σ W (WfI X.K Q) (f r) → wi σ H Q

/-! ### for -/
def nextS (x : SR) (k : Env → SR) : SR := match x with
  | .nx r => k r
  | .ct r => k r
  | .bk r => .nx r
  | .rt d => .rt d
  | .er c r => .er c r
  | .no => .no
def loopF (g : Da → Env → Option Env) (body : Env → SR) : List Da → Env → SR
  | [], r => .nx r
  | d :: ds, r => match g d r with
    | none => .no
    | some r1 => nextS (body r1) (loopF g body ds)
def sFor (fi : Env → R (List Da)) (g : Da → Env → Option Env) (body : Env → SR) : Env → SR := fun r => bS r (fi r) fun ds => loopF g body ds r
section
variable {cls : String → Value} {X : Cx} {W : WX}
theorem Ps.next {K : PySem.W.Frag} {F B B0 : Hp} {D : Ends} {x : SR} {kk : Env → SR} {N : L2.St → Hp → Prop} (p : Ps K cls F B D W (nextS x kk)) (h : ∀ B' H' σ' r, Gr F B B' → Ok K F B' H' σ' r → Ps K cls F B' D W (kk r) → N σ' H') : Ps K cls F B { D with nx := N, ct := N, bk := D.nx } W x := by
  cases x with
  | nx r => exact fun B' H' σ' g k => h B' H' σ' r g k (Ps.gr (show Ps K cls F B D W (kk r) from p) g)
  | ct r => exact fun B' H' σ' g k => h B' H' σ' r g k (Ps.gr (show Ps K cls F B D W (kk r) from p) g)
  | bk r => exact p
  | rt d => exact p
  | er c r => exact p
  | no => exact p
theorem for_run {J : It} {B0 : Hp} {ds : List Da} {g : Da → Env → Option Env} {body : Env → SR} {tg : TG} {tb : TS} {F : Hp} {D : Ends}
    (hg : ∀ (F B H : Hp) (σ : L2.St) (r r' : Env) (v : V) (d : Da) (Q : L2.St → Hp → Prop), Ok X.K F B H σ r → Rep X.K B v d → g d r = some r' → (∀ σ', Ok X.K F B H σ' r' → Q σ' H) → tg v σ H Q)
    (hb : ∀ (F B H : Hp) (σ : L2.St) (r : Env) (D : Ends), Ok X.K F B H σ r → Ps X.K cls F B D W (body r) → tb D σ H)
    (y : Yl X.K J B0 ds) {B H : Hp} {σ : L2.St} {r : Env} (b0 : Le B0 B) (k : Ok X.K F B H σ r) (p : Ps X.K cls F B D W (loopF g body ds r)) :
    ∃ M : Nat → Nat → L2.St → Hp → Prop, (∃ m, M 0 m σ H) ∧ ∀ i m σ H, M i m σ H →
      (J.stop i H ∧ D.nx σ H) ∨ (J.go i H ∧ ∃ N : L2.St → Hp → Prop, (∀ σ' H', N σ' H' → ∃ m', m' < m ∧ M (i + 1) m' σ' H') ∧ ∀ x H', J.yld i H x H' → tg x σ H' fun σ2 H2 => tb { D with nx := N, ct := N, bk := D.nx } σ2 H2) := by
  refine ⟨fun i m σ H => m = ds.length - i ∧ i ≤ ds.length ∧ ∃ B r, Le B0 B ∧ Ok X.K F B H σ r ∧ Ps X.K cls F B D W (loopF g body (ds.drop i) r), ⟨ds.length, by simp, Nat.zero_le _, B, r, b0, k, p⟩, ?_⟩
  rintro i m σ H ⟨rfl, hi, B, r, b0, k, p⟩
  by_cases hlt : i < ds.length
  · refine .inr ⟨y.go i H hlt (b0.trans k.bh), fun σ' H' => ∃ B r, Le B0 B ∧ Ok X.K F B H' σ' r ∧ Ps X.K cls F B D W (loopF g body (ds.drop (i + 1)) r), fun σ' H' ⟨B', r', b', k', p'⟩ => ⟨ds.length - (i + 1), by omega, rfl, hlt, B', r', b', k', p'⟩, fun x H' hy => ?_⟩
    have e : ds[i]? = some ds[i] := List.getElem?_eq_getElem hlt
    obtain ⟨B', s, hr⟩ := y.yd i H x H' _ B e b0 k.bh hy
    rw [List.drop_eq_getElem_cons hlt] at p
    unfold loopF at p
    cases eg : g ds[i] r with
    | none => rw [eg] at p; exact p.elim
    | some r1 =>
      rw [eg] at p
      have gr := s.grF k.fh
      refine hg F B' H' σ r r1 x _ _ (k.stp s) hr eg fun σ' k' => hb F B' H' σ' r1 _ k' ?_
      exact Ps.next (B0 := B) (Ps.gr p gr) fun B2 H2 σ2 r2 g2 k2 p2 => ⟨B2, r2, (b0.trans gr.1).trans g2.1, k2, p2⟩
  · have e : i = ds.length := by omega
    subst e
    rw [List.drop_length] at p
    exact .inl ⟨y.st H (b0.trans k.bh), p B H σ (Gr.refl _ _) k⟩
theorem ds_for {tg iter : Expr} {body : List Stmt} {fi : Env → R (List Da)} {g : Da → Env → Option Env} {f : Env → SR} {pos : Pos} (hp : PassesOwn (model X.prog X.w) X.A X.env X.xe) (hi : DI cls X W tg iter fi) (hg : DG X tg g) (hb : DSs cls X W body f)
    (hc : X.calm = true := by rfl) (hs : ∀ x, foldedSetIterable iter X.env x = pure x := by intro _; rfl) : DS cls X W (.For tg iter body [] pos) (sFor fi g f) := by
  obtain ⟨ti, pi, hi⟩ := hi.run
  obtain ⟨u, pu, hg⟩ := hg.run
  obtain ⟨t, pt, hb⟩ := hb.run
  refine ⟨_, ps_for hp hc pi pu pt hs, fun F B H σ r D k p => hi F B H σ r _ k ((Ps.bS p k).imp fun ds B' H' s q J y => ?_)⟩
  exact for_run hg hb y (Le.refl _) (k.stp s) q

/-! ### while -/
def loopW (c : Env → R Bool) (body : Env → SR) : Nat → Env → SR
  | 0, _ => .no
  | n + 1, r => bS r (c r) fun b => if b then nextS (body r) (loopW c body n) else .nx r
theorem ds_while (fuel : Nat) {c : Expr} {body : List Stmt} {fc : Env → R Bool} {f : Env → SR} {pos : Pos} (hp : PassesOwn (model X.prog X.w) X.A X.env X.xe) (hc : DT cls X W c fc) (hb : DSs cls X W body f) : DS cls X W (.While c body [] pos) (loopW fc f fuel) := by
  obtain ⟨tc, pc, hc⟩ := hc.run
  obtain ⟨t, pt, hb⟩ := hb.run
  refine ⟨_, ps_while hp pc pt, fun F B H σ r D k p => ⟨fun m σ H => ∃ B r, Ok X.K F B H σ r ∧ Ps X.K cls F B D W (loopW fc f m r), ⟨fuel, B, r, k, p⟩, ?_⟩⟩
  rintro m σ H ⟨B, r, k, p⟩
  cases m with
  | zero => exact p.elim
  | succ n =>
    refine hc F B H σ r _ k ((Ps.bS p k).imp fun b B' H' s q => ?_)
    have k' := k.stp s
    cases b with
    | false => exact q B' H' σ (Gr.refl _ _) k'
    | true =>
      refine iteT ?_
      refine ⟨fun σ H => ∃ B r, Ok X.K F B H σ r ∧ Ps X.K cls F B D W (loopW fc f n r), fun σ' H' ⟨B2, r2, k2, p2⟩ => ⟨n, Nat.lt_succ_self n, B2, r2, k2, p2⟩, hb F B' H' σ r _ k' ?_⟩
      exact Ps.next (B0 := B) q fun B2 H2 σ2 r2 g2 k2 p2 => ⟨B2, r2, k2, p2⟩

/-! ### a comprehension -/
def wipeE (r : Env) : List Nat → Env
  | [] => r
  | i :: is => (wipeE r is).set i .un
def lcF (g : Da → Env → Option Env) (ft : Env → R Bool) (fe : Env → R Da) (r : Env) : List Da → R (List Da)
  | [] => .ok []
  | d :: ds => match g d r with
    | none => .no
    | some r1 => (ft r1).bind fun b => if b then (fe r1).bind fun y => (lcF g ft fe r ds).bind fun ys => .ok (y :: ys) else lcF g ft fe r ds
def eLc (vs : List Nat) (fi : Env → R (List Da)) (g : Da → Env → Option Env) (ft : Env → R Bool) (fe : Env → R Da) : Env → R Da := fun r =>
  (fi r).bind fun ds => if ds.length ≤ 100000 then (lcF g ft fe (wipeE r vs) ds).calm.bind fun ys => .ok (.list ys) else .no
def ftYes : Env → R Bool := fun _ => .ok true
structure DTs (cls : String → Value) (X : Cx) (W : WX) (es : List Expr) (f : Env → R Bool) : Prop where
  run : ∃ t, PTs X es t ∧ ∀ (F B H : Hp) (σ : L2.St) (r : Env) (Q : Bool → Hp → Prop), Ok X.K F B H σ r → Pw cls B H σ W (WfT Q) (f r) → t σ H Q
theorem dts_nil : DTs cls X W [] ftYes := ⟨_, pts_nil, fun F B H σ r Q k p => p B H (Stp.refl k.bh)⟩
theorem dts_one {c : Expr} {f : Env → R Bool} (h : DT cls X W c f) : DTs cls X W [c] f := by
  obtain ⟨t, pt, h⟩ := h.run
  exact ⟨_, pts_one pt, h⟩
theorem wipeE_length (r : Env) : ∀ vs : List Nat, (wipeE r vs).length = r.length
  | [] => rfl
  | i :: is => by
    unfold wipeE
    rw [List.length_set]
    exact wipeE_length r is
theorem wipeE_get (r : Env) (i : Nat) (s : Sl) : ∀ vs : List Nat, (wipeE r vs)[i]? = some s → s = .un ∨ (r[i]? = some s ∧ i ∉ vs)
  | [], e => .inr ⟨e, by simp⟩
  | j :: is, e => by
    have e : ((wipeE r is).set j .un)[i]? = some s := e
    by_cases h : j = i
    · subst h
      by_cases hl : j < (wipeE r is).length
      · rw [List.getElem?_set_self hl] at e
        cases e
        exact .inl rfl
      · rw [List.getElem?_eq_none (by rw [List.length_set]; omega)] at e
        cases e
    · rw [List.getElem?_set_ne h] at e
      rcases wipeE_get r i s is e with q | ⟨q1, q2⟩
      · exact .inl q
      · refine .inr ⟨q1, fun z => ?_⟩
        rcases List.mem_cons.mp z with z | z
        · exact h z.symm
        · exact q2 z
theorem wipe_keep (σ : L2.St) (i : Nat) : ∀ vs : List Nat, i ∉ vs → (wipe σ vs)[i]? = σ[i]?
  | [], _ => rfl
  | j :: is, h => by
    have h1 : j ≠ i := fun z => h (by rw [z]; exact List.mem_cons_self)
    have h2 : i ∉ is := fun z => h (List.mem_cons_of_mem _ z)
    show ((wipe σ is).set j none)[i]? = σ[i]?
    rw [List.getElem?_set_ne h1]
    exact wipe_keep σ i is h2
theorem Ok.wipe {K : PySem.W.Frag} {F B H : Hp} {σ : L2.St} {r : Env} (k : Ok K F B H σ r) (vs : List Nat) : Ok K F B H (L2.wipe σ vs) (wipeE r vs) := by
  refine ⟨k.bh, k.fh, by rw [wipe_length, wipeE_length]; exact k.len, fun i s e => ?_, fun i j d e p ne h1 h2 h3 h4 => ?_⟩
  · rcases wipeE_get r i s vs e with q | ⟨q1, q2⟩
    · subst q
      trivial
    · have h := k.sl i s q1
      cases s with
      | un => trivial
      | fz d => obtain ⟨v, a, b⟩ := h; exact ⟨v, by rw [wipe_keep σ i vs q2]; exact a, b⟩
      | ow d => obtain ⟨v, a, b⟩ := h; exact ⟨v, by rw [wipe_keep σ i vs q2]; exact a, b⟩
  · rcases wipeE_get r i _ vs h1 with q | ⟨q1, q2⟩
    · cases q
    · rcases wipeE_get r j _ vs h2 with q | ⟨q3, q4⟩
      · cases q
      · rw [wipe_keep σ i vs q2] at h3
        rw [wipe_keep σ j vs q4] at h4
        exact k.inj i j d e p ne q1 q3 h3 h4
/-! ### one reading for all contexts -/
def cE (K : PySem.W.Frag) (cls : String → Value) (W : WX) (f : Env → R Da) : TE := fun σ H Q => ∃ F B r, Ok K F B H σ r ∧ Pw cls B H σ W (WfE K Q) (f r)
def cTs (K : PySem.W.Frag) (cls : String → Value) (W : WX) (f : Env → R Bool) : TT := fun σ H Q => ∃ F B r, Ok K F B H σ r ∧ Pw cls B H σ W (WfT Q) (f r)
theorem DE.pe {e : Expr} {f : Env → R Da} (h : DE cls X W e f) : PE X e (cE X.K cls W f) := by
  obtain ⟨t, pt, h⟩ := h.run
  exact ⟨fun pins s σ H Q I ⟨F, B, r, k, p⟩ => pt.run pins s σ H Q I (h F B H σ r Q k p)⟩
theorem DTs.pt {es : List Expr} {f : Env → R Bool} (h : DTs cls X W es f) : PTs X es (cTs X.K cls W f) := by
  obtain ⟨t, pt, h⟩ := h.run
  exact ⟨fun pins s σ H Q I ⟨F, B, r, k, p⟩ => pt.run pins s σ H Q I (h F B H σ r Q k p)⟩
def cG (K : PySem.W.Frag) (vs : List Nat) (g : Da → Env → Option Env) : TG := fun v σ H Q => ∃ F B r r' d, Ok K F B H σ r ∧ Rep K B v d ∧ g d r = some r' ∧ ∀ σ', Ok K F B H σ' r' → L2.wipe σ' vs = L2.wipe σ vs → Q σ' H
/-- a target that stores into the slots vs alone -/
structure DGw (X : Cx) (vs : List Nat) (tg : Expr) (g : Da → Env → Option Env) : Prop where
  run : ∃ t, PG X tg t ∧ ∀ (F B H : Hp) (σ : L2.St) (r r' : Env) (v : V) (d : Da) (Q : L2.St → Hp → Prop), Ok X.K F B H σ r → Rep X.K B v d → g d r = some r' → (∀ σ', Ok X.K F B H σ' r' → L2.wipe σ' vs = L2.wipe σ vs → Q σ' H) → t v σ H Q
structure DGsw (X : Cx) (vs : List Nat) (ts : List Expr) (g : List Da → Env → Option Env) : Prop where
  run : ∃ t, PGs X ts t ∧ ∀ (F B H : Hp) (σ : L2.St) (r r' : Env) (us : List V) (ds : List Da) (Q : L2.St → Hp → Prop), Ok X.K F B H σ r → RepAll X.K B us ds → g ds r = some r' → (∀ σ', Ok X.K F B H σ' r' → L2.wipe σ' vs = L2.wipe σ vs → Q σ' H) → t us σ H Q
theorem DGw.pg {vs : List Nat} {tg : Expr} {g : Da → Env → Option Env} (h : DGw X vs tg g) : PG X tg (cG X.K vs g) := by
  obtain ⟨t, pt, h⟩ := h.run
  exact ⟨fun pins s σ H v u Q I rv ⟨F, B, r, r', d, k, hd, e, q⟩ => pt.run pins s σ H v u Q I rv (h F B H σ r r' v d Q k hd e q)⟩
theorem wipe_set {σ : L2.St} {i : Nat} {v : Option V} : ∀ {vs : List Nat}, i ∈ vs → L2.wipe (σ.set i v) vs = L2.wipe σ vs
  | j :: vs, h => by
    show (L2.wipe (σ.set i v) vs).set j none = (L2.wipe σ vs).set j none
    by_cases hi : i ∈ vs
    · rw [wipe_set hi]
    · rcases List.mem_cons.mp h with rfl | h
      · refine List.ext_getElem? fun l => ?_
        by_cases hl : i = l
        · subst hl
          by_cases hs : i < σ.length
          · rw [List.getElem?_set_self (by rw [wipe_length, List.length_set]; exact hs), List.getElem?_set_self (by rw [wipe_length]; exact hs)]
          · rw [List.getElem?_eq_none (by rw [List.length_set, wipe_length, List.length_set]; omega), List.getElem?_eq_none (by rw [List.length_set, wipe_length]; omega)]
        · rw [List.getElem?_set_ne hl, List.getElem?_set_ne hl]
          by_cases hlv : l ∈ vs
          · have z : ∀ (s t : L2.St), s.length = t.length → ∀ ws : List Nat, l ∈ ws → (L2.wipe s ws)[l]? = (L2.wipe t ws)[l]? := by
              intro s t hl ws
              induction ws with
              | nil => intro q; cases q
              | cons j ws ih =>
                intro q
                show ((L2.wipe s ws).set j none)[l]? = ((L2.wipe t ws).set j none)[l]?
                by_cases hj : j = l
                · subst hj
                  by_cases hs : j < s.length
                  · rw [List.getElem?_set_self (by rw [wipe_length]; exact hs), List.getElem?_set_self (by rw [wipe_length]; omega)]
                  · rw [List.getElem?_eq_none (by rw [List.length_set, wipe_length]; omega), List.getElem?_eq_none (by rw [List.length_set, wipe_length]; omega)]
                · rw [List.getElem?_set_ne hj, List.getElem?_set_ne hj]
                  rcases List.mem_cons.mp q with e | q
                  · exact absurd e.symm hj
                  · exact ih q
            exact z _ _ (by rw [List.length_set]) vs hlv
          · rw [wipe_keep _ l vs hlv, wipe_keep _ l vs hlv, List.getElem?_set_ne hl]
      · exact absurd h hi
theorem dgw_name (i : Nat) {vs : List Nat} {x : Str} {pos : Pos} (hN : X.N.Nodup) (hv : i ∈ vs := by decide) (hi : X.N[i]? = some x := by rfl) (hx : Loc X.env.scope x := by first | exact Or.inl rfl | exact Or.inr rfl)
    (hf : X.fn x = true ∨ X.env.scope.names.lookup x = some .local := by first | exact .inl rfl | exact .inr rfl) : DGw X vs (.Name x pos) (gNm i) := by
  refine ⟨_, pg_name hN hi hx hf, fun F B H σ r r' v d Q k hd e q => ?_⟩
  cases e
  exact q _ (k.setF hd) (wipe_set hv)
theorem dgsw_nil {vs : List Nat} : DGsw X vs [] gsNil := by
  refine ⟨_, pgs_nil, fun F B H σ r r' us ds Q k hd e q => ?_⟩
  cases hd with
  | nil =>
    cases e
    exact ⟨rfl, q σ k rfl⟩
  | cons h h' => cases e
theorem dgsw_cons {vs : List Nat} {e : Expr} {es : List Expr} {g : Da → Env → Option Env} {gs : List Da → Env → Option Env} (h1 : DGw X vs e g) (h2 : DGsw X vs es gs) (hs : (assignEach (e :: es) X.env).map (·.2) = assign e X.env :: (assignEach es X.env).map (·.2) := by rfl) : DGsw X vs (e :: es) (gsCons g gs) := by
  obtain ⟨t, pt, h1⟩ := h1.run
  obtain ⟨u, pu, h2⟩ := h2.run
  refine ⟨_, pgs_cons pt pu hs, fun F B H σ r r' us ds Q k hv e q => ?_⟩
  cases hv with
  | nil => cases e
  | cons h h' =>
    rename_i v us d ds
    have e : (g d r).bind (gs ds) = some r' := e
    cases hg : g d r with
    | none => rw [hg] at e; cases e
    | some r1 =>
      rw [hg] at e
      exact ⟨v, us, rfl, h1 F B H σ r r1 v d _ k h hg fun σ1 k1 w1 => h2 F B H σ1 r1 r' us ds Q k1 h' e fun σ2 k2 w2 => q σ2 k2 (w2.trans w1)⟩
theorem dgw_tup {vs : List Nat} {es : List Expr} {k0 : Nat} {gs : List Da → Env → Option Env} {n : Nat} {pos : Pos} (h : DGsw X vs es gs) (hc : X.calm = true := by rfl) (hn : (assignEach es X.env).length = n := by rfl) (hst : (assignEach es X.env).findIdx? (·.1) = none := by rfl) : DGw X vs (.Tuple es k0 pos) (gTp gs n) := by
  obtain ⟨u, pu, h2⟩ := h.run
  refine ⟨_, pg_tup (k := k0) hc pu hn hst, fun F B H σ r r' v d Q k hv e q => ?_⟩
  cases d with
  | tuple ds =>
    have e : (if ds.length = n then gs ds r else none) = some r' := e
    by_cases hl : ds.length = n
    · rw [if_pos hl] at e
      cases hv with
      | tup hs hr => exact ⟨_, _, rfl, k.bh.st hs, by rw [hr.length]; exact hl, h2 F B H σ r r' _ ds Q k hr e q⟩
    · rw [if_neg hl] at e
      cases e
  | none => cases e
  | bool b => cases e
  | int b => cases e
  | str b => cases e
  | list b => cases e
  | dict b => cases e
theorem lcF_len {g : Da → Env → Option Env} {ft : Env → R Bool} {fe : Env → R Da} {r : Env} : ∀ {ds ys : List Da}, lcF g ft fe r ds = .ok ys → ys.length ≤ ds.length
  | [], ys, e => by cases e; exact Nat.le_refl _
  | d :: ds, ys, e => by
    unfold lcF at e
    cases hg : g d r with
    | none => rw [hg] at e; cases e
    | some r1 =>
      rw [hg] at e
      have e : ((ft r1).bind fun b => if b then (fe r1).bind fun y => (lcF g ft fe r ds).bind fun ys => .ok (y :: ys) else lcF g ft fe r ds) = .ok ys := e
      cases ht : ft r1 with
      | no => rw [ht] at e; cases e
      | er c => rw [ht] at e; cases e
      | ok b =>
        rw [ht, R.ok_bind] at e
        cases b with
        | false =>
          have := lcF_len (show lcF g ft fe r ds = .ok ys from e)
          rw [List.length_cons]
          omega
        | true =>
          have e : ((fe r1).bind fun y => (lcF g ft fe r ds).bind fun ys => .ok (y :: ys)) = .ok ys := e
          cases he : fe r1 with
          | no => rw [he] at e; cases e
          | er c => rw [he] at e; cases e
          | ok y =>
            rw [he, R.ok_bind] at e
            cases hl : lcF g ft fe r ds with
            | no => rw [hl] at e; cases e
            | er c => rw [hl] at e; cases e
            | ok zs =>
              rw [hl, R.ok_bind] at e
              cases e
              have := lcF_len hl
              rw [List.length_cons, List.length_cons]
              omega
theorem lc_run {J : It} {B0 : Hp} {ds ys : List Da} {vs : List Nat} {g : Da → Env → Option Env} {ft : Env → R Bool} {fe : Env → R Da} {tg : TG} {tt : TT} {te : TE} {F : Hp} {σ : L2.St} {r : Env} {K : PySem.W.Frag}
    (hg : ∀ (F B H : Hp) (σ : L2.St) (r r' : Env) (v : V) (d : Da) (Q : L2.St → Hp → Prop), Ok K F B H σ r → Rep K B v d → g d r = some r' → (∀ σ', Ok K F B H σ' r' → L2.wipe σ' vs = L2.wipe σ vs → Q σ' H) → tg v σ H Q)
    (ht : ∀ (F B H : Hp) (σ : L2.St) (r : Env) (Q : Bool → Hp → Prop), Ok K F B H σ r → Pw cls B H σ W (WfT Q) (ft r) → tt σ H Q)
    (he : ∀ (F B H : Hp) (σ : L2.St) (r : Env) (Q : VK), Ok K F B H σ r → Pw cls B H σ W (WfE K Q) (fe r) → te σ H Q)
    (y : Yl K J B0 ds) {B H1 : Hp} (b0 : Le B0 B) (k : Ok K F B H1 σ r) (hz : ds.length ≤ 100000) (hw : L2.wipe (L2.wipe σ vs) vs = L2.wipe σ vs)
    (e : lcF g ft fe (wipeE r vs) ds = .ok ys) {Q : VK} {Dl : Addr} (hD : H1 Dl = none) (q : ∀ B' H', Stp B H1 B' H' → B' Dl = none → OwnD K B' H' Dl (.list ys) → Q (.ref Dl) H') :
    ∃ M : Nat → Nat → Hp → Prop, (∃ m, M 0 m (upd H1 Dl (.lst []))) ∧ ∀ i m H, M i m H →
  (J.stop i H ∧ Q (.ref Dl) H) ∨ (J.go i H ∧ ∃ Nx : Hp → Prop, (∀ H', Nx H' → ∃ m', m' < m ∧ M (i + 1) m' H') ∧ ∀ x H', J.yld i H x H' → tg x (L2.wipe σ vs) H' fun σ2 H2 => L2.wipe σ2 vs = L2.wipe σ vs ∧ tt σ2 H2 fun b H3 =>
    if b = true then te σ2 H3 fun y H4 => ∃ acc, H4 Dl = some (.lst acc) ∧ acc.length < sizeLine ∧ Nx (upd H4 Dl (.lst (acc ++ [y]))) else Nx H3) := by
  -- what holds at turn i: the list so far, the rest of the answer
  let Iv : Nat → Hp → Prop := fun i H => ∃ B' acc as zs, Stp B H1 B' H ∧ B' Dl = none ∧ H Dl = some (.lst acc) ∧ RepAll K B' acc as ∧ as.length ≤ i ∧ lcF g ft fe (wipeE r vs) (ds.drop i) = .ok zs ∧ ys = as ++ zs
  refine ⟨fun i m H => m = ds.length - i ∧ i ≤ ds.length ∧ Iv i H, ⟨ds.length, by simp, Nat.zero_le _, B, [], [], ys, Stp.drop k.bh hD, k.bh.back hD, upd_same, .nil, Nat.le_refl _, e, rfl⟩, ?_⟩
  rintro i m H ⟨rfl, hi, B', acc, as, zs, s1, bD, aD, ra, la, ez, ey⟩
  have bb := b0.trans s1.gr.1
  by_cases hlt : i < ds.length
  · refine .inr ⟨y.go i H hlt (bb.trans s1.bh), Iv (i + 1), fun H' iv => ⟨ds.length - (i + 1), by omega, rfl, hlt, iv⟩, fun x H' hy => ?_⟩
    obtain ⟨B2, s2, hr⟩ := y.yd i H x H' _ B' (List.getElem?_eq_getElem hlt) bb s1.bh hy
    rw [List.drop_eq_getElem_cons hlt] at ez
    unfold lcF at ez
    cases eg : g ds[i] (wipeE r vs) with
    | none => rw [eg] at ez; cases ez
    | some r1 =>
      rw [eg] at ez
      have ez : ((ft r1).bind fun b => if b then (fe r1).bind fun y => (lcF g ft fe (wipeE r vs) (ds.drop (i + 1))).bind fun ys => .ok (y :: ys) else lcF g ft fe (wipeE r vs) (ds.drop (i + 1))) = .ok zs := ez
      refine hg F B2 H' _ _ r1 x _ _ (((k.stp s1).stp s2).wipe vs) hr eg fun σ2 k2 w2 => ⟨w2.trans hw, ?_⟩
      cases et : ft r1 with
      | no => rw [et] at ez; cases ez
      | er c => rw [et] at ez; cases ez
      | ok b =>
        rw [et, R.ok_bind] at ez
        refine ht F B2 H' σ2 r1 _ k2 ?_
        rw [et]
        intro B3 H3 s3
        have s13 := (s1.trans s2).trans s3
        have d3 : H3 Dl = some (.lst acc) := (s2.trans s3).hh _ _ aD
        have b3 : B3 Dl = none := by rw [(s2.trans s3).gr.2 Dl _ aD]; exact bD
        have r3 : RepAll K B3 acc as := ra.mono (s2.trans s3).gr.1
        cases b with
        | false =>
          exact ⟨B3, acc, as, zs, s13, b3, d3, r3, by omega, ez, ey⟩
        | true =>
          have ez : ((fe r1).bind fun y => (lcF g ft fe (wipeE r vs) (ds.drop (i + 1))).bind fun ys => .ok (y :: ys)) = .ok zs := ez
          show te σ2 H3 _
          refine he F B3 H3 σ2 r1 _ (k2.stp s3) ?_
          cases ee : fe r1 with
          | no => rw [ee] at ez; cases ez
          | er c => rw [ee] at ez; cases ez
          | ok d =>
            rw [ee, R.ok_bind] at ez
            intro B4 H4 s4 v hv
            cases el : lcF g ft fe (wipeE r vs) (ds.drop (i + 1)) with
            | no => rw [el] at ez; cases ez
            | er c => rw [el] at ez; cases ez
            | ok us =>
              rw [el, R.ok_bind] at ez
              cases ez
              have b4 : B4 Dl = none := by rw [s4.gr.2 Dl _ d3]; exact b3
              have lacc := r3.length
              refine ⟨acc, s4.hh _ _ d3, szlt (by omega), B4, acc ++ [v], as ++ [d], us, ?_, b4, upd_same, (r3.mono s4.gr.1).append (.one hv), by rw [List.length_append]; simp; omega, el, by rw [ey, List.append_assoc]; rfl⟩
              have s14 := s13.trans s4
              exact ⟨s14.gr, s14.bh.put b4, s14.hh.put hD⟩
  · have e : i = ds.length := by omega
    subst e
    rw [List.drop_length] at ez
    cases ez
    rw [List.append_nil] at ey
    subst ey
    exact .inl ⟨y.st H (bb.trans s1.bh), q B' H s1 bD ⟨acc, aD, ra⟩⟩
theorem wipe2 (σ : L2.St) (vs : List Nat) : L2.wipe (L2.wipe σ vs) vs = L2.wipe σ vs := by
  refine List.ext_getElem? fun i => ?_
  by_cases h : i ∈ vs
  · have z : ∀ (s t : L2.St), s.length = t.length → ∀ ws : List Nat, i ∈ ws → (L2.wipe s ws)[i]? = (L2.wipe t ws)[i]? := by
      intro s t hl ws
      induction ws with
      | nil => intro q; cases q
      | cons j ws ih =>
        intro q
        show ((L2.wipe s ws).set j none)[i]? = ((L2.wipe t ws).set j none)[i]?
        by_cases hj : j = i
        · subst hj
          by_cases hs : j < s.length
          · rw [List.getElem?_set_self (by rw [wipe_length]; exact hs), List.getElem?_set_self (by rw [wipe_length]; omega)]
          · rw [List.getElem?_eq_none (by rw [List.length_set, wipe_length]; omega), List.getElem?_eq_none (by rw [List.length_set, wipe_length]; omega)]
        · rw [List.getElem?_set_ne hj, List.getElem?_set_ne hj]
          rcases List.mem_cons.mp q with e | q
          · exact absurd e.symm hj
          · exact ih q
    exact z _ _ (wipe_length σ vs) vs h
  · exact wipe_keep _ i vs h
/-- the comprehension's block: what stands in it, for every block that may come -/
abbrev Blk (X : Cx) (scope : Scope) (s : Shared) (H : Hp) (C : Addr) (cl : List (Str × Addr)) (fp : List Addr) : Cx := X.blk s H scope (compEnvC scope cl C X.env) fp
theorem df_lc (own : List (Str × Nat)) {elt tg iter : Expr} {ifs : List Expr} {scope : Scope} {pos : Pos} {fi : Env → R (List Da)} {g : Da → Env → Option Env} {ft : Env → R Bool} {fe : Env → R Da}
    (hN : X.N.Nodup) (hi : DI cls X W tg iter fi) (ok : BlkOk X.N X.env.scope scope own)
    (hg : ∀ (s : Shared) (H : Hp) (C : Addr) (cl : List (Str × Addr)) (fp : List Addr), DGw (Blk X scope s H C cl fp) (own.map (·.2)) tg g)
    (ht : ∀ (s : Shared) (H : Hp) (C : Addr) (cl : List (Str × Addr)) (fp : List Addr), DTs cls (Blk X scope s H C cl fp) (fun _ _ _ _ => False) ifs ft)
    (he : ∀ (s : Shared) (H : Hp) (C : Addr) (cl : List (Str × Addr)) (fp : List Addr), DE cls (Blk X scope s H C cl fp) (fun _ _ _ _ => False) elt fe)
    (hc : X.calm = true := by rfl) (hs : ∀ x, foldedSetIterable iter X.env x = pure x := by intro _; rfl) : DF cls X W (.ListComp elt [⟨tg, iter, ifs, 0⟩] scope pos) (eLc (own.map (·.2)) fi g ft fe) := by
  obtain ⟨wi, pi, hi⟩ := hi.run
  refine ⟨_, pe_lc (g := cG X.K (own.map (·.2)) g) (tt := cTs X.K cls (fun _ _ _ _ => False) ft) (te := cE X.K cls (fun _ _ _ _ => False) fe) hc hN pi ok (fun s H C cl fp => (hg s H C cl fp).pg) (fun s H C cl fp => (ht s H C cl fp).pt) (fun s H C cl fp => (he s H C cl fp).pe) hs, fun F B H σ r Q k p => ?_⟩
  refine hi F B H σ r _ k (p.bind.imp fun ds B1 H1 s1 p1 J y => ?_)
  intro Dl hD
  have p1 : Pw cls B1 H1 σ W (WfF X.K H Q) (if ds.length ≤ 100000 then (lcF g ft fe (wipeE r (own.map (·.2))) ds).calm.bind fun ys => .ok (.list ys) else .no) := p1
  by_cases hz : ds.length ≤ 100000
  · rw [if_pos hz] at p1
    obtain ⟨ys, e, q⟩ := p1.bind.calm
    exact lc_run (W := fun _ _ _ _ => False) (K := X.K) (fun F B H σ r r' v d Q k hd e q => ⟨F, B, r, r', d, k, hd, e, q⟩) (fun F B H σ r Q k p => ⟨F, B, r, k, p⟩) (fun F B H σ r Q k p => ⟨F, B, r, k, p⟩) y (Le.refl _) (k.stp s1) hz (wipe2 σ _) e hD
      fun B' H' s b o => q B' H' s B' H' (Stp.refl s.bh) Dl (s1.hh.back hD) b o
  · rw [if_neg hz] at p1
    exact p1.elim
end
end Mi

/-! Mi4: calls and defs; an own list changed; raise. -/
namespace Mi
open PySem PySem.Spec PyProof.Rows L2

/-! ### a def's promise: its mirror -/
def spF (K : PySem.W.Frag) (cls : String → Value) (m : List Da → R Da) : Sp := fun vs H Q E => ∃ B ds, Le B H ∧ RepAll K B vs ds ∧ match m ds with
  | .ok d => ∀ B' H' v, Stp B H B' H' → Rep K B' v d → Q v H'
  | .er c => ∀ H', Le H H' → E (cls c) none H'
  | .no => False
structure Def (cls : String → Value) (P : Program) (w : World) (K : PySem.W.Frag) (mg : Str → Option Value) (base : Heap) (x : Str) (k : Nat) (m : List Da → R Da) : Prop where
  ex : ∃ f fd ps, mg x = some (.ref f) ∧ PySem.W.keepIn K (.ref f) = true ∧ Binds K fd ps [] ∧ FnOk P w K mg base (L2.CX P w) k f fd ps (spF K cls m)
structure Raw (K : PySem.W.Frag) (mg : Str → Option Value) (x : Str) (st : Stmt) : Prop where
  ex : ∃ f fd, Fun K x x st f fd ∧ mg x = some (.ref f)
def eCall (m : List Da → R Da) (fs : Env → R (List Da)) : Env → R Da := fun r => (fs r).bind m
section
variable {cls : String → Value} {X : Cx} {W : WX}
theorem de_call {x : Str} {k : Nat} {m : List Da → R Da} {e : Expr} {es : List Expr} {fs : Env → R (List Da)} {p pos : Pos} (G : Def cls X.prog X.w X.K X.mg X.base x k m) (hr : Room k X.A) (tk : Takes X W) (ha : DA cls X W (e :: es) fs)
    (hg : Gl X x := by rfl) (hdb : (x == ("__debug__" : Str)) = false := by decide) (he : starEach (e :: es) X.env = (false, eval e X.env) :: starEach es X.env := by rfl) (hpl : (backTo pos (starEach es X.env)).any (·.1) = false := by rfl) :
    DE cls X W (.Call (.Name x p) (e :: es) [] pos) (eCall m fs) := by
  obtain ⟨f, fd, ps, hm, hk, hb, F⟩ := G.ex
  obtain ⟨t, pt, h⟩ := ha.run
  refine ⟨_, pe_callS F hr hg hm hk hb (fun σ => passAt tk σ) pt hdb he hpl, fun F0 B H σ r Q k p => h F0 B H σ r _ k (p.bind.imp fun ds B1 H1 s1 p1 vs hvs => ⟨B1, ds, s1.bh, hvs, ?_⟩)⟩
  cases q : m ds with
  | ok d =>
    rw [q] at p1
    exact fun B' H' v s hv => p1 B' H' s v hv
  | er c =>
    rw [q] at p1
    exact fun H' l => p1 B1 H' ⟨Gr.refl _ _, s1.bh.trans l, l⟩
  | no =>
    rw [q] at p1
    exact p1
end
def env0 (n : Nat) (ds : List Da) : Env := ds.map Sl.fz ++ List.replicate (n - ds.length) .un
def outS : SR → R Da
  | .nx _ => .ok .none
  | .rt d => .ok d
  | .er c _ => .er c
  | _ => .no
def fnD (np n : Nat) (g : Env → SR) : List Da → R Da := fun ds => if ds.length = np then outS (g (env0 n ds)) else .no
theorem repAll_get {K : PySem.W.Frag} {B : Hp} : ∀ {vs : List V} {ds : List Da} {i : Nat} {d : Da}, RepAll K B vs ds → (ds.map Sl.fz)[i]? = some (.fz d) → ∃ v, (vs.map some)[i]? = some (some v) ∧ Rep K B v d := fun {vs ds i d} h e => by
  rw [List.getElem?_map] at e
  cases q : ds[i]? with
  | none => rw [q] at e; cases e
  | some d' =>
    rw [q] at e
    cases e
    obtain ⟨v, h1, h2⟩ := h.get q
    exact ⟨v, by rw [List.getElem?_map, h1]; rfl, h2⟩
theorem ok_start {K : PySem.W.Frag} {B H : Hp} {N : List Str} {vs : List V} {ds : List Da} (b : Le B H) (h : RepAll K B vs ds) : Ok K H B H (start N vs) (env0 N.length ds) := by
  have hl := h.length
  have shape : ∀ (i : Nat) (s : Sl), (env0 N.length ds)[i]? = some s → s = .un ∨ ∃ d, s = .fz d ∧ (ds.map Sl.fz)[i]? = some (.fz d) ∧ i < ds.length := by
    intro i s e
    unfold env0 at e
    by_cases hi : i < ds.length
    · rw [List.getElem?_append_left (by rw [List.length_map]; exact hi)] at e
      rw [List.getElem?_map, List.getElem?_eq_getElem hi] at e
      cases e
      refine .inr ⟨ds[i], rfl, ?_, hi⟩
      rw [List.getElem?_map, List.getElem?_eq_getElem hi]
      rfl
    · rw [List.getElem?_append_right (by rw [List.length_map]; omega)] at e
      have e' := List.getElem?_eq_some_iff.mp e
      obtain ⟨h1, h2⟩ := e'
      rw [List.getElem_replicate] at h2
      exact .inl h2.symm
  refine ⟨b, Le.refl _, ?_, fun i s e => ?_, fun i j d1 d2 p ne e1 e2 h1 h2 => ?_⟩
  · unfold L2.start env0
    rw [List.length_append, List.length_append, List.length_map, List.length_map, List.length_replicate, List.length_replicate, hl]
  · rcases shape i s e with q | ⟨d, q, e1, hi⟩
    · subst q
      trivial
    · subst q
      obtain ⟨v, h1, h2⟩ := repAll_get h e1
      refine ⟨v, ?_, h2⟩
      unfold L2.start
      rw [List.getElem?_append_left (by rw [List.length_map]; omega)]
      exact h1
  · rcases shape i _ e1 with q | ⟨d, q, _, _⟩
    · cases q
    · cases q
theorem mkDefX {cls : String → Value} {P : Program} {w : World} {K : PySem.W.Frag} {mg : Str → Option Value} {base : Heap} {x : Str} {st : Stmt} {N ps : List Str} {k : Nat} {g : Env → SR} (R0 : Raw K mg x st) (S : FnScope N ps (defScope st))
    (hb : ∀ (kV doc pm : Value) (an : Option Addr) (cdv ct : Value) (us : List Value), us.length = ps.length → bindArgs (PySem.W.fnOf x x (defArgs st) (defBody st) (defScope st) .none kV doc pm an cdv ct) ⟨us, []⟩ = pure (ps.zip us))
    (body : ∀ (X : Cx) (E : XK) (f : Addr) (cdv : Value) (A : Around) (outer : List PySem.Env) (s : Shared) (H : Hp), X = cxOf (L2.CX P w) P w K mg base N x (defScope st) f cdv A outer s H E → Room k X.A → Takes X (fun c d _ H => E c d H) → PassesOwn (model X.prog X.w) X.A X.env X.xe →
      DSs cls X (fun c d _ H => E c d H) (defBody st) g) : ∃ f fd, Fun K x x st f fd ∧ mg x = some (.ref f) ∧ FnOk P w K mg base (L2.CX P w) (k + 1) f fd ps (spF K cls (fnD ps.length N.length g)) := by
  obtain ⟨f, fd, F, hm⟩ := R0.ex
  refine ⟨f, fd, F, hm, F.okX S (fun vs H Q E h => ?_) (fun cdv A outer s H vs Q E hr h => ?_)⟩
  · obtain ⟨B, ds, b, r, h⟩ := h
    rw [r.length]
    unfold fnD at h
    by_cases hl : ds.length = ps.length
    · exact hl
    · rw [if_neg hl] at h
      exact h.elim
  · obtain ⟨B, ds, b, r, h⟩ := h
    have tk : Takes (cxOf (L2.CX P w) P w K mg base N x (defScope st) f cdv A outer s H E) (fun c d _ H => E c d H) := takes_of rfl rfl rfl rfl
    have hp : PassesOwn (model (cxOf (L2.CX P w) P w K mg base N x (defScope st) f cdv A outer s H E).prog (cxOf (L2.CX P w) P w K mg base N x (defScope st) f cdv A outer s H E).w) (cxOf (L2.CX P w) P w K mg base N x (defScope st) f cdv A outer s H E).A (cxOf (L2.CX P w) P w K mg base N x (defScope st) f cdv A outer s H E).env (cxOf (L2.CX P w) P w K mg base N x (defScope st) f cdv A outer s H E).xe := passes_of rfl
    obtain ⟨t, pt, hd⟩ := (body _ E f cdv A outer s H rfl hr tk hp).run
    refine ⟨t, pt, hd H B H _ (env0 N.length ds) _ (ok_start b r) ?_⟩
    unfold fnD at h
    by_cases hl : ds.length = ps.length
    · rw [if_pos hl] at h
      cases q : g (env0 N.length ds) with
      | nx r' =>
        rw [q] at h
        exact fun B' H' σ' gr k' => h B' H' _ ⟨gr, k'.bh, k'.fh⟩ .non
      | rt d =>
        rw [q] at h
        exact fun B' H' v gr l1 l2 hv => h B' H' v ⟨gr, l1, l2⟩ hv
      | er c r' =>
        rw [q] at h
        exact fun B' H' σ' gr k' => h H' k'.fh
      | bk r' =>
        rw [q] at h
        exact h.elim
      | ct r' =>
        rw [q] at h
        exact h.elim
      | no =>
        rw [q] at h
        exact h.elim
    · rw [if_neg hl] at h
      exact h.elim

theorem mkDef {cls : String → Value} {P : Program} {w : World} {K : PySem.W.Frag} {mg : Str → Option Value} {base : Heap} {x : Str} {st : Stmt} {N ps : List Str} {k : Nat} {g : Env → SR} (R0 : Raw K mg x st) (S : FnScope N ps (defScope st))
    (hb : ∀ (kV doc pm : Value) (an : Option Addr) (cdv ct : Value) (us : List Value), us.length = ps.length → bindArgs (PySem.W.fnOf x x (defArgs st) (defBody st) (defScope st) .none kV doc pm an cdv ct) ⟨us, []⟩ = pure (ps.zip us))
    (body : ∀ (X : Cx) (E : XK) (f : Addr) (cdv : Value) (A : Around) (outer : List PySem.Env) (s : Shared) (H : Hp), X = cxOf (L2.CX P w) P w K mg base N x (defScope st) f cdv A outer s H E → Room k X.A → Takes X (fun c d _ H => E c d H) → PassesOwn (model X.prog X.w) X.A X.env X.xe →
      DSs cls X (fun c d _ H => E c d H) (defBody st) g) : Def cls P w K mg base x (k + 1) (fnD ps.length N.length g) := by
  obtain ⟨f, fd, F, hm, ok⟩ := mkDefX R0 S hb body
  exact ⟨f, fd, ps, hm, F.kp, F.binds hb, ok⟩

section
variable {cls : String → Value} {X : Cx} {W : WX}
/-! ### freezing, handing back what one owns -/
def frzE (i : Nat) (r : Env) : Env := match r[i]? with
  | some (.ow (.list ds)) => r.set i (.fz (.list ds))
  | _ => r
def sFrz (i : Nat) (g : Env → SR) : Env → SR := fun r => g (frzE i r)
theorem Ok.frzE {K : PySem.W.Frag} {F B H : Hp} {σ : L2.St} {r : Env} (i : Nat) (k : Ok K F B H σ r) : ∃ B', Gr F B B' ∧ Ok K F B' H σ (frzE i r) := by
  unfold Mi.frzE
  split
  · rename_i ds e
    obtain ⟨p, a, b1, b2, xs, b3, b4⟩ := k.sl i _ e
    have l : Le B (upd B p (.lst xs)) := Le.new b2
    obtain ⟨g, k'⟩ := k.frz (H' := H) (o := .lst xs) (d := .list ds) e a b2 b1 b3 (fun _ _ => rfl) (.lst (.inl (.inl upd_same)) (b4.mono l))
    exact ⟨_, g, k'⟩
  · exact ⟨B, Gr.refl _ _, k⟩
theorem dss_frz (i : Nat) {sts : List Stmt} {g : Env → SR} (h : DSs cls X W sts g) : DSs cls X W sts (sFrz i g) := by
  obtain ⟨t, pt, h⟩ := h.run
  refine ⟨t, pt, fun F B H σ r D k p => ?_⟩
  obtain ⟨B', gr, k'⟩ := k.frzE i
  exact h F B' H σ _ D k' (Ps.gr p gr)
theorem ds_frz (i : Nat) {st : Stmt} {g : Env → SR} (h : DS cls X W st g) : DS cls X W st (sFrz i g) := by
  obtain ⟨t, pt, h⟩ := h.run
  refine ⟨t, pt, fun F B H σ r D k p => ?_⟩
  obtain ⟨B', gr, k'⟩ := k.frzE i
  exact h F B' H σ _ D k' (Ps.gr p gr)

/-! ### an own list changed -/
/-- x.append(e) -/
def sApp (i : Nat) (f : Env → R Da) : Env → SR := fun r => match r[i]? with
  | some (.ow (.list ds)) => bS r (f r) fun d => if ds.length < 100000 then .nx (r.set i (.ow (.list (ds ++ [d])))) else .no
  | _ => .no
theorem OwnD.list_at {K : PySem.W.Frag} {B H : Hp} {p : Addr} {ds : List Da} (h : OwnD K B H p (.list ds)) : ∃ xs, H p = some (.lst xs) ∧ RepAll K B xs ds := h
theorem ds_app (i : Nat) {x : Str} {e : Expr} {f : Env → R Da} {p apos cpos pos : Pos} (he : DE cls X W e f) (hN : X.N[i]? = some x := by rfl) (hv : Vis X.env.scope x := by first | exact Or.inl rfl | exact Or.inr (Or.inl rfl) | exact Or.inr (Or.inr rfl))
    (hd : (x == ("__debug__" : Str)) = false := by decide) (hcd : (x == ("__classdict__" : Str)) = false := by decide)
    (hsw : swapsWith (.Call (.Attribute (.Name x p) "append" apos) [e] [] cpos) none pos.line X.env = pure false := by rfl)
    (hbase : attributeBase (.Name x p) "append" X.env (eval (.Name x p) X.env) = eval (.Name x p) X.env := by rfl)
    (hfew : ((backTo cpos (starEach [e] X.env)).all (fun x => !x.1) && (backToKw cpos (keywordEach [] X.env)).all (fun x => x.1.isSome)
      && decide ([e].length + ([] : List Keyword).length + (if ([] : List Keyword).isEmpty then 0 else 1) < 30)) = true := by rfl)
    (hline : (apos.endLine == cpos.line) = true := by rfl) (hs : starEach [e] X.env = (false, eval e X.env) :: starEach [] X.env := by rfl) :
    DS cls X W (.Expr (.Call (.Attribute (.Name x p) "append" apos) [e] [] cpos) pos) (sApp i f) := by
  obtain ⟨t, pt, h⟩ := he.run
  refine ⟨_, ps_expr (pe_bm PySem.F.plainAttrs_list PySem.F.slot_list_append PySem.F.type_list_append mt_append (pe_var hN hv hd hcd) (pa_cons pt pa_nil hs) hbase hfew hline hs rfl) hsw, fun F B H σ r D k q => ?_⟩
  unfold sApp at q
  split at q
  · rename_i ds e0
    obtain ⟨a, h1, b1, b2, xs, b3, b4⟩ := k.sl i _ e0
    refine ⟨.ref a, h1, .inl ⟨rfl, xs, .inl (.inl b3)⟩, ?_⟩
    refine h F B H σ r _ k ((Ps.bS q k).imp fun d B' H' s q v hv => ?_)
    by_cases hl : ds.length < 100000
    · rw [if_pos hl] at q
      have k' := k.stp s
      have hx := b4.length
      refine ⟨a, xs, v, rfl, rfl, s.hh _ _ b3, szlt (by omega), q B' _ σ (Gr.refl _ _) ?_⟩
      refine k'.put e0 h1 ⟨xs ++ [v], upd_same, (b4.mono s.gr.1).append (.one hv)⟩
    · rw [if_neg hl] at q
      exact q.elim
  · exact q.elim
/-- x[e] = v, x an own list -/
def ixD (n : Nat) (i : Int) : Option Nat := ixN n i
def sPut (i : Nat) (fi fv : Env → R Da) : Env → SR := fun r => match r[i]? with
  | some (.ow (.list ds)) => bS r (fv r) fun d => bS r (fi r) fun j => match j with
    | .int j => match ixD ds.length j with
      | some n => .nx (r.set i (.ow (.list (ds.set n d))))
      | none => .no
    | _ => .no
  | _ => .no
theorem ds_put (i : Nat) {x : Str} {ei e : Expr} {fi f : Env → R Da} {p tpos pos : Pos} (he : DE cls X W e f) (hei : DE cls X W ei fi) (hN : X.N[i]? = some x := by rfl) (hv : Vis X.env.scope x := by first | exact Or.inl rfl | exact Or.inr (Or.inl rfl) | exact Or.inr (Or.inr rfl))
    (hd : (x == ("__debug__" : Str)) = false := by decide) (hcd : (x == ("__classdict__" : Str)) = false := by decide)
    (ha : ∀ v, assign (.Subscript (.Name x p) ei tpos) X.env v = (do
      let ov ← holding [v] (eval (.Name x p) X.env)
      let iv ← holding [v, ov] (eval ei X.env)
      standAt tpos
      holding [v, ov, iv] (setItem ov iv v)
      release [v, ov, iv] []) := by intro _; rfl)
    (hs : swapsWithSole [.Subscript (.Name x p) ei tpos] e pos.line X.env = pure false := by rfl) (hw : swappedStores [.Subscript (.Name x p) ei tpos] e X.env = pure none := by rfl)
    (h1 : (assignEach [.Subscript (.Name x p) ei tpos] X.env).map (·.2) = [assign (.Subscript (.Name x p) ei tpos) X.env] := by rfl) :
    DS cls X W (.Assign [.Subscript (.Name x p) ei tpos] e pos) (sPut i fi f) := by
  obtain ⟨t, pt, h⟩ := he.run
  obtain ⟨u, pu, h'⟩ := hei.run
  refine ⟨_, ps_asg pt (pg_sub (pe_var hN hv hd hcd) pu set_list ha) hs hw h1, fun F B H σ r D k q => ?_⟩
  unfold sPut at q
  split at q
  · rename_i ds e0
    obtain ⟨a, h1, b1, b2, xs, b3, b4⟩ := k.sl i _ e0
    refine h F B H σ r _ k ((Ps.bS q k).imp fun d B' H' s q v hv => ⟨.ref a, h1, ?_⟩)
    have k' := k.stp s
    refine h' F B' H' σ r _ k' ((Ps.bS q k').imp fun j B2 H2 s2 q2 w hw => ?_)
    cases j with
    | int j =>
      cases hw
      have q2 : Ps X.K cls F B2 D W (match ixD ds.length j with | some n => .nx (r.set i (.ow (.list (ds.set n d)))) | none => .no) := q2
      cases en : ixD ds.length j with
      | none => rw [en] at q2; exact q2.elim
      | some n =>
        rw [en] at q2
        refine ⟨a, xs, j, n, rfl, rfl, s2.hh _ _ (s.hh _ _ b3), by rw [b4.length]; exact en, q2 B2 _ σ (Gr.refl _ _) ?_⟩
        exact (k'.stp s2).put e0 h1 ⟨xs.set n v, upd_same, ((b4.mono s.gr.1).mono s2.gr.1).set (hv.mono s2.gr.1) n⟩
    | none => exact q2.elim
    | bool b => exact q2.elim
    | str b => exact q2.elim
    | tuple b => exact q2.elim
    | list b => exact q2.elim
    | dict b => exact q2.elim
  · exact q.elim
/-- return x: what x owns (a list) or holds -/
def sRetO (i : Nat) : Env → SR := fun r => match r[i]? with
  | some (.ow (.list ds)) => .rt (.list ds)
  | some (.fz d) => .rt d
  | _ => .no
theorem ds_retO (i : Nat) {x : Str} {p pos : Pos} (hN : X.N[i]? = some x := by rfl) (hv : Vis X.env.scope x := by first | exact Or.inl rfl | exact Or.inr (Or.inl rfl) | exact Or.inr (Or.inr rfl))
    (hd : (x == ("__debug__" : Str)) = false := by decide) (hcd : (x == ("__classdict__" : Str)) = false := by decide) : DS cls X W (.Return (some (.Name x p)) pos) (sRetO i) := by
  refine ⟨_, ps_ret (pe_var hN hv hd hcd), fun F B H σ r D k q => ?_⟩
  unfold sRetO at q
  split at q
  · rename_i ds e0
    obtain ⟨a, h1, b1, b2, xs, b3, b4⟩ := k.sl i _ e0
    have l : Le B (upd B a (.lst xs)) := Le.new b2
    obtain ⟨g, k'⟩ := k.frz (H' := H) (o := .lst xs) (d := .list ds) e0 h1 b2 b1 b3 (fun _ _ => rfl) (.lst (.inl (.inl upd_same)) (b4.mono l))
    exact ⟨.ref a, h1, q _ _ _ g k'.bh k'.fh (.lst (.inl (.inl upd_same)) (b4.mono l))⟩
  · rename_i d e0
    obtain ⟨v, h1, h2⟩ := k.rd e0
    exact ⟨v, h1, q B H v (Gr.refl _ _) k.bh k.fh h2⟩
  · exact q.elim

/-! ### y = [..] on one line -/
theorem ds_ownLc (i : Nat) (own : List (Str × Nat)) {y : Str} {py spos : Pos} {elt tg iter : Expr} {ifs : List Expr} {scope : Scope} {pos : Pos} {fi : Env → R (List Da)} {g : Da → Env → Option Env} {ft : Env → R Bool} {fe : Env → R Da}
    (hN : X.N.Nodup) (hi : DI cls X W tg iter fi) (ok : BlkOk X.N X.env.scope scope own)
    (hg : ∀ (s : Shared) (H : Hp) (C : Addr) (cl : List (Str × Addr)) (fp : List Addr), DGw (Blk X scope s H C cl fp) (own.map (·.2)) tg g)
    (ht : ∀ (s : Shared) (H : Hp) (C : Addr) (cl : List (Str × Addr)) (fp : List Addr), DTs cls (Blk X scope s H C cl fp) (fun _ _ _ _ => False) ifs ft)
    (he : ∀ (s : Shared) (H : Hp) (C : Addr) (cl : List (Str × Addr)) (fp : List Addr), DE cls (Blk X scope s H C cl fp) (fun _ _ _ _ => False) elt fe)
    (hy : X.N[i]? = some y := by rfl) (hyl : X.env.scope.names.lookup y = some .local := by rfl)
    (hsw : swapsWith (.ListComp elt [⟨tg, iter, ifs, 0⟩] scope pos) (some (.Name y py)) spos.line X.env = pure true := by first | rfl | exact sw_true rfl rfl rfl (by decide +kernel))
    (hc : X.calm = true := by rfl) (hs : ∀ x, foldedSetIterable iter X.env x = pure x := by intro _; rfl) : DS cls X W (.Assign [.Name y py] (.ListComp elt [⟨tg, iter, ifs, 0⟩] scope pos) spos) (sOwn i (eLc (own.map (·.2)) fi g ft fe)) := by
  obtain ⟨wi, pi, hi⟩ := hi.run
  refine ⟨_, ps_setLc (g := cG X.K (own.map (·.2)) g) (tt := cTs X.K cls (fun _ _ _ _ => False) ft) (te := cE X.K cls (fun _ _ _ _ => False) fe) hc hN hy hyl hsw pi ok (fun s H C cl fp => (hg s H C cl fp).pg) (fun s H C cl fp => (ht s H C cl fp).pt) (fun s H C cl fp => (he s H C cl fp).pe) hs, fun F B H σ r D k p => ?_⟩
  refine hi F B H σ r _ k ((Ps.bS p k).bind.imp fun ds B1 H1 s1 p1 J yl => ?_)
  intro Dl hD
  have p1 : Pw cls B1 H1 σ W (fun a B' H' => Ps X.K cls F B' D W (.nx (r.set i (.ow a)))) (if ds.length ≤ 100000 then (lcF g ft fe (wipeE r (own.map (·.2))) ds).calm.bind fun ys => .ok (.list ys) else .no) := p1
  by_cases hz : ds.length ≤ 100000
  · rw [if_pos hz] at p1
    obtain ⟨ys, e, q⟩ := p1.bind.calm
    exact lc_run (W := fun _ _ _ _ => False) (K := X.K) (Q := fun x H1 => gName i x σ H1 D.nx) (fun F B H σ r r' v d Q k hd e q => ⟨F, B, r, r', d, k, hd, e, q⟩) (fun F B H σ r Q k p => ⟨F, B, r, k, p⟩) (fun F B H σ r Q k p => ⟨F, B, r, k, p⟩) yl (Le.refl _) (k.stp s1) hz (wipe2 σ _) e hD
      fun B' H' s b o => q B' H' s B' H' (Stp.refl s.bh) B' H' _ (Gr.refl _ _) (k.own (s1.trans s) (s1.hh.back hD) b o)
  · rw [if_neg hz] at p1
    exact p1.elim

/-! ### raise -/
structure ExF (K : PySem.W.Frag) (mg : Str → Option Value) (cls : String → Value) (x : Str) (c : String) : Prop where
  ex : ∃ C, cls c = .ref C ∧ mg x = some (.ref C) ∧ PySem.W.excIn K C [.type "ValueError", .type "Exception", .type "BaseException", .type "object"] "ValueError.__new__" = true ∧ PySem.W.keepIn K (.ref C) = true ∧
    PySem.W.subIn K (.ref C) (.type "BaseException") = some true ∧ PySem.W.typeIn K (.ref C) = some (.type "type")
def sRaise (c : String) : Env → SR := fun r => .er c r
theorem ds_raise {x m : Str} {c : String} {j : Nat} {p p2 pos pos' : Pos} (F0 : ExF X.K X.mg cls x c) (tk : Takes X W) (hg : Gl X x := by rfl) (hc : X.calm = true := by rfl) (hdb : (x == ("__debug__" : Str)) = false := by decide) :
    DS cls X W (.Raise (some (.Call (.Name x p) [.Constant (.str m) j p2] [] pos)) none pos') (sRaise c) := by
  obtain ⟨C, e0, gP, xP, kP, bP, tP⟩ := F0.ex
  refine ⟨_, ps_raise hc tk (pmk_own PySem.F.excBase_ValueError xP gP kP (raises_own bP tP) hg hdb), fun F B H σ r D k q => ?_⟩
  have q := q B H σ (Gr.refl _ _) k
  rw [e0] at q
  exact q
end
end Mi

/-! Mi5: what is walked: a list, a tuple, a text, a frozen dict; zip and enumerate of these. -/
namespace Mi
open PySem PySem.Spec PyProof.Rows L2

/-! ### sources -/
inductive Kd where
  | ls (a : Addr)
  | tp (a : Addr)
  | sg (z : Str) (tk : Tok)
def Kd.val : Kd → Value
  | .ls a => .ref a
  | .tp a => .ref a
  | .sg z t => .str z t
def Kd.ob : Kd → Obj
  | .ls a => { cls := .type "list_iterator", data := .fields #[.ref a, .int 0 0] }
  | .tp a => { cls := .type "tuple_iterator", data := .fields #[.ref a, .int 0 0] }
  | .sg z t => { cls := .type (strIterType z), data := .fields #[.str z t, .int 0 0] }
def Kd.st : Kd → Addr → Nat → Heap → Prop
  | .ls a, it, i, h => h.IsListIter it a i
  | .tp a, it, i, h => h.IsTupleIter it a i
  | .sg z t, it, i, h => h.IsStrIter it (strIterType z) z t i
def sgV (z : Str) : List V := z.cps.toList.map fun c => V.str ⟨#[c]⟩
def Kd.on (K : PySem.W.Frag) (H : Hp) (xs : List V) : Kd → Prop
  | .ls a => SqL K H a xs
  | .tp a => SqT K H a xs
  | .sg z _ => xs = sgV z
def Kd.src : Kd → List Addr
  | .ls a => [a]
  | .tp a => [a]
  | .sg _ _ => []
theorem Kd.on_mono {K : PySem.W.Frag} {H H' : Hp} {xs : List V} {k : Kd} (e : Le H H') (h : k.on K H xs) : k.on K H' xs := by
  cases k with
  | ls a => exact e.sl h
  | tp a => exact e.st h
  | sg z t => exact h
theorem Kd.init {k : Kd} {it : Addr} {h : Heap} (e : h.get? it = some k.ob) : k.st it 0 h := by
  cases k with
  | ls a => exact ⟨_, e, rfl, rfl⟩
  | tp a => exact ⟨_, e, rfl, rfl⟩
  | sg z t => exact ⟨_, e, rfl, rfl⟩
theorem Kd.here {k : Kd} {it : Addr} {i : Nat} {h : Heap} (st : k.st it i h) : ∃ o, h.get? it = some o ∧ ∀ v, o.data ≠ .cell v := by
  cases k with
  | ls a =>
    obtain ⟨o, e, c, d⟩ := st
    exact ⟨o, e, fun v z => by rw [d] at z; cases z⟩
  | tp a =>
    obtain ⟨o, e, c, d⟩ := st
    exact ⟨o, e, fun v z => by rw [d] at z; cases z⟩
  | sg z t =>
    obtain ⟨o, e, c, d⟩ := st
    exact ⟨o, e, fun v z => by rw [d] at z; cases z⟩
theorem Kd.keep {k : Kd} {it : Addr} {i : Nat} {h h' : Heap} (st : k.st it i h) (hk : ∀ o, h.get? it = some o → h'.get? it = some o) : k.st it i h' := by
  cases k with
  | ls a =>
    obtain ⟨o, e, c, d⟩ := st
    exact ⟨o, hk o e, c, d⟩
  | tp a =>
    obtain ⟨o, e, c, d⟩ := st
    exact ⟨o, hk o e, c, d⟩
  | sg z t =>
    obtain ⟨o, e, c, d⟩ := st
    exact ⟨o, hk o e, c, d⟩
theorem sgV_get {z : Str} {i c : Nat} (h : z.cps[i]? = some c) : (sgV z)[i]? = some (V.str ⟨#[c]⟩) := by
  unfold sgV
  rw [List.getElem?_map, Array.getElem?_toList, h]
  rfl
theorem sgV_len (z : Str) : (sgV z).length = z.cps.size := by
  unfold sgV
  rw [List.length_map, Array.length_toList]
section
variable {X : Cx} {pins : List (Addr × Obj)} {σ : L2.St} {H : Hp} {s : Shared} {xs : List V} {k : Kd}
theorem Kd.begins (I : Inv X pins σ H s) (on : k.on X.K H xs) : ∃ Hb, Begins k.val k.ob Hb ∧ Hb s.heap := by
  cases k with
  | ls a =>
    obtain ⟨its, rv, p, hz⟩ := I.list on
    exact ⟨_, begins_list a its.toArray, p.isList⟩
  | tp a =>
    obtain ⟨its, rv, p, hz⟩ := I.tuple on
    exact ⟨_, begins_tuple a its.toArray, p⟩
  | sg z t => exact ⟨_, begins_text z t, trivial⟩
/-- a source is no object of an iterator -/
theorem Kd.apart (I : Inv X pins σ H s) (on : k.on X.K H xs) {b : Addr} (f : FpOk X pins H b) : b ∉ k.src := by
  have base : ∀ a o, X.K.lookup a = some o → a ≠ b := fun a o e z => by
    have e1 := I.mod.kin a o e
    subst z
    rcases f.2.2.2.1 with q | q
    · exact I.ok.noex a o e1 q
    · exact absurd (Nat.lt_of_lt_of_le (Heap.lt_size e1) (Nat.le_trans I.ok.bsz q)) (Nat.lt_irrefl _)
  cases k with
  | ls a =>
    intro hb
    have hb : b = a := by simpa [Kd.src] using hb
    subst hb
    rcases on with (h | ⟨o, h⟩) | ⟨o, its, n, e, _⟩
    · rw [f.1] at h; cases h
    · rw [f.1] at h; cases h
    · exact base b o e rfl
  | tp a =>
    intro hb
    have hb : b = a := by simpa [Kd.src] using hb
    subst hb
    rcases on with (h | ⟨o, h⟩) | ⟨o, its, n, e, _⟩
    · rw [f.1] at h; cases h
    · rw [f.1] at h; cases h
    · exact base b o e rfl
  | sg z t => intro hb; cases hb
theorem Kd.draws (I : Inv X pins σ H s) (on : k.on X.K H xs) {A : Around} (hh : A.handled = none) {it : Addr} (hi : it ∉ k.src) :
    ∃ P St, Draws X.prog X.w A it (it :: k.src) xs.length P St ∧ (∀ j, k.st it j s.heap → St j s.heap) ∧ (∀ j h, St j h → k.st it j h) ∧ ∀ j v, P j v → ∃ x, xs[j]? = some x ∧ RelV x v := by
  cases k with
  | ls a =>
    obtain ⟨its, rv, p, hz⟩ := I.list on
    have hl := rv.length
    have ne : a ≠ it := fun z => hi (by rw [z]; exact List.mem_cons_self)
    have D := Draws.list (prog := X.prog) (w := X.w) hh it a ne its.toArray
    rw [List.size_toArray, ← hl] at D
    refine ⟨_, _, D, fun j st => ⟨st, p.isList⟩, fun j h st => st.1, fun j v e => ?_⟩
    have e : its[j]? = some v := by simpa using e
    cases q : xs[j]? with
    | none =>
      have := rv.none_of q
      rw [e] at this
      cases this
    | some x =>
      obtain ⟨u, h1, h2⟩ := rv.get q
      rw [e] at h1
      cases h1
      exact ⟨x, rfl, h2⟩
  | tp a =>
    obtain ⟨its, rv, p, hz⟩ := I.tuple on
    have hl := rv.length
    have ne : a ≠ it := fun z => hi (by rw [z]; exact List.mem_cons_self)
    have D := Draws.tuple (prog := X.prog) (w := X.w) hh it a ne its.toArray
    rw [List.size_toArray, ← hl] at D
    refine ⟨_, _, D, fun j st => ⟨st, p⟩, fun j h st => st.1, fun j v e => ?_⟩
    have e : its[j]? = some v := by simpa using e
    cases q : xs[j]? with
    | none =>
      have := rv.none_of q
      rw [e] at this
      cases this
    | some x =>
      obtain ⟨u, h1, h2⟩ := rv.get q
      rw [e] at h1
      cases h1
      exact ⟨x, rfl, h2⟩
  | sg z t =>
    have on : xs = sgV z := on
    subst on
    have D := Draws.text (prog := X.prog) (w := X.w) hh it z t
    rw [← sgV_len] at D
    exact ⟨_, _, D, fun j st => st, fun j h st => st, fun j v ⟨c, u, e, ev⟩ => ⟨_, sgV_get e, by rw [ev]; exact ⟨u, rfl⟩⟩⟩
end

/-! ### zip of two -/
def ItZ (K : PySem.W.Frag) (k1 k2 : Kd) (xs ys : List V) : It :=
  ⟨fun i H => k1.on K H xs ∧ k2.on K H ys ∧ i < min xs.length ys.length,
    fun i H v H' => ∃ T x y, v = .ref T ∧ H T = none ∧ H' = upd H T (.tup [x, y]) ∧ xs[i]? = some x ∧ ys[i]? = some y,
    fun i H => k1.on K H xs ∧ k2.on K H ys ∧ i = min xs.length ys.length⟩
def ZipSt (k1 k2 : Kd) (z TI TO i1 i2 : Addr) (i : Nat) (h : Heap) : Prop :=
  IsZip h z TI TO .none ∧ IsTupOf2 h TI (.ref i1) (.ref i2) ∧ (∃ a1 a2, IsTupOf2 h TO a1 a2) ∧ k1.st i1 i h ∧ k2.st i2 i h
theorem zipsep {z TI TO i1 i2 : Addr} {l1 l2 : List Addr} (D : TI ≠ z ∧ TO ≠ z ∧ TI ≠ TO ∧ TI ≠ i1 ∧ TI ≠ i2 ∧ z ≠ i1 ∧ z ≠ i2 ∧ TO ≠ i1 ∧ TO ≠ i2 ∧ i1 ≠ i2) (h1 : ∀ b ∈ [z, TI, TO, i1, i2], b ∉ l1) (h2 : ∀ b ∈ [z, TI, TO, i1, i2], b ∉ l2) :
    ZipSep2 z TI TO i1 i2 (i1 :: l1) (i2 :: l2) := by
  obtain ⟨d1, d2, d3, d4, d5, d6, d7, d8, d9, d10⟩ := D
  have nm : ∀ {b i : Addr} {l : List Addr}, b ≠ i → b ∉ l → b ∉ i :: l := fun h1 h2 q => by
    rcases List.mem_cons.mp q with q | q
    · exact h1 q
    · exact h2 q
  exact { TIz := d1, TOz := d2, TITO := d3, TIi1 := d4, mem1 := List.mem_cons_self .., zf1 := nm d6 (h1 z (by simp)), Tf1 := nm d8 (h1 TO (by simp)), TIi2 := d5, mem2 := List.mem_cons_self .., zf2 := nm d7 (h2 z (by simp)), Tf2 := nm d9 (h2 TO (by simp)), sep1_2 := nm d10 (h2 i1 (by simp)), sep2_1 := nm (Ne.symm d10) (h1 i2 (by simp)) }
theorem sub4 {z TI TO i1 i2 b : Addr} (h : b ∈ [z, TO, i1, i2]) : b ∈ [z, TI, TO, i1, i2] := by
  rcases List.mem_cons.mp h with q | h
  · rw [q]; exact List.mem_cons_self
  · exact List.mem_cons_of_mem _ (List.mem_cons_of_mem _ h)
theorem turn_zip2 {P : Program} {w : World} {K : PySem.W.Frag} {elts : List Expr} {kk : Nat} {tpos : Pos} {k1 k2 : Kd} {xs ys : List V} {z TI TO i1 i2 : Addr}
    (D : TI ≠ z ∧ TO ≠ z ∧ TI ≠ TO ∧ TI ≠ i1 ∧ TI ≠ i2 ∧ z ≠ i1 ∧ z ≠ i2 ∧ TO ≠ i1 ∧ TO ≠ i2 ∧ i1 ≠ i2) : Turn P w K (.Tuple elts kk tpos) (ItZ K k1 k2 xs ys) [z, TI, TO, i1, i2] z (ZipSt k1 k2 z TI TO i1 i2) where
  mem := by simp
  obj := fun i h st b hb => by
    obtain ⟨h1, h2, ⟨a1, a2, h3⟩, h4, h5⟩ := st
    have e' : b = z ∨ b = TI ∨ b = TO ∨ b = i1 ∨ b = i2 := by simpa using hb
    rcases e' with q | q | q | q | q
    · rw [q]; exact ⟨_, h1, fun v z => nomatch z⟩
    · rw [q]; exact ⟨_, h2, fun v z => nomatch z⟩
    · rw [q]; exact ⟨_, h3, fun v z => nomatch z⟩
    · rw [q]; exact Kd.here h4
    · rw [q]; exact Kd.here h5
  keep := fun i h h' st k => by
    obtain ⟨h1, h2, ⟨a1, a2, h3⟩, h4, h5⟩ := st
    exact ⟨k z (by simp) _ h1, k TI (by simp) _ h2, ⟨a1, a2, k TO (by simp) _ h3⟩, Kd.keep h4 fun o e => k i1 (by simp) o e, Kd.keep h5 fun o e => k i2 (by simp) o e⟩
  item := by
    intro X hP hw hK hc i pins s σ H E I hf st hg
    subst hP hw hK
    obtain ⟨on1, on2, hi⟩ := hg
    have n1 : ∀ b ∈ [z, TI, TO, i1, i2], b ∉ k1.src := fun b hb => Kd.apart I on1 (hf b hb)
    have n2 : ∀ b ∈ [z, TI, TO, i1, i2], b ∉ k2.src := fun b hb => Kd.apart I on2 (hf b hb)
    have hh : X.A.in1.handled = none := I.ok.hd hc
    obtain ⟨P1, S1, D1, a1, b1, c1⟩ := Kd.draws I on1 hh (n1 i1 (by simp))
    obtain ⟨P2, S2, D2, a2, b2, c2⟩ := Kd.draws I on2 hh (n2 i2 (by simp))
    have G := GoesN.zip2 (elts := elts) (x1 := kk) (pos := tpos) (zipsep D n1 n2) D1 D2
    obtain ⟨h1, h2, h3, h4, h5⟩ := st
    have lt : ∀ b ∈ [z, TI, TO, i1, i2], b < s.heap.objs.size := fun b hb => by
      obtain ⟨v1, v2, h3⟩ := h3
      have e' : b = z ∨ b = TI ∨ b = TO ∨ b = i1 ∨ b = i2 := by simpa using hb
      rcases e' with q | q | q | q | q
      · rw [q]; exact Heap.lt_size h1
      · rw [q]; exact Heap.lt_size h2
      · rw [q]; exact Heap.lt_size h3
      · rw [q]; obtain ⟨o, e, _⟩ := Kd.here h4; exact Heap.lt_size e
      · rw [q]; obtain ⟨o, e, _⟩ := Kd.here h5; exact Heap.lt_size e
    refine wpAny_mono (G.goes i s (fun v s2 => ∃ x H', Inv X pins σ H' s2 ∧ RelV x v ∧ (ItZ X.K k1 k2 xs ys).yld i H x H' ∧ ZipSt k1 k2 z TI TO i1 i2 (i + 1) s2.heap ∧ ∀ b ∈ [z, TI, TO, i1, i2], H' b = none) E hi ⟨h1, h2, h3, a1 i h4, a2 i h5⟩ fun v h' tk hY st' hk htk => ?_) (fun r s1 ⟨v, e, q⟩ => ⟨v, e, q⟩) fun _ _ q => q
    obtain ⟨T, x, y, rfl, hT, p1, p2, ht⟩ := hY
    obtain ⟨x', ex, rx⟩ := c1 i x p1
    obtain ⟨y', ey, ry⟩ := c2 i y p2
    have hn : H T = none := I.hok.fresh hT
    have new : ObjOk X.prog X.w (upd H T (.tup [x', y'])) h' T (.tup [x', y']) := ⟨by show 2 ≤ sizeLine; decide, [x, y], .cons rx (.cons ry .nil), ht⟩
    have I1 : Inv X pins σ (upd H T (.tup [x', y'])) { s with heap := h', toks := tk } :=
      I.turnedNew (ch := [z, TI, TO, i1, i2]) (fun b ob hb q => hk b ob (fun q4 => hb (sub4 q4)) q) hf hT new
    refine ⟨.ref T, _, I1, rfl, ⟨T, x', y', rfl, hn, rfl, ex, ey⟩, ⟨st'.1, st'.2.1, st'.2.2.1, b1 _ _ st'.2.2.2.1, b2 _ _ st'.2.2.2.2⟩, fun b hb => ?_⟩
    rw [upd_ne (Nat.ne_of_lt (Nat.lt_of_lt_of_le (lt b hb) hT))]
    exact (hf b hb).1
  done := by
    intro X hP hw hK hc i pins s σ H E I hf st hg
    subst hP hw hK
    obtain ⟨on1, on2, hi⟩ := hg
    have n1 : ∀ b ∈ [z, TI, TO, i1, i2], b ∉ k1.src := fun b hb => Kd.apart I on1 (hf b hb)
    have n2 : ∀ b ∈ [z, TI, TO, i1, i2], b ∉ k2.src := fun b hb => Kd.apart I on2 (hf b hb)
    have hh : X.A.in1.handled = none := I.ok.hd hc
    obtain ⟨P1, S1, D1, a1, b1, c1⟩ := Kd.draws I on1 hh (n1 i1 (by simp))
    obtain ⟨P2, S2, D2, a2, b2, c2⟩ := Kd.draws I on2 hh (n2 i2 (by simp))
    have G := GoesN.zip2 (elts := elts) (x1 := kk) (pos := tpos) (zipsep D n1 n2) D1 D2
    obtain ⟨h1, h2, h3, h4, h5⟩ := st
    subst hi
    refine G.stops s (fun s1 => Inv X pins σ H s1) E ⟨h1, h2, h3, a1 _ h4, a2 _ h5⟩ fun h' tk hk htk => ?_
    have nit : ∀ b u, H b = some u → b ∉ [z, TI, TO, i1, i2] := fun b u e q => by rw [(hf b q).1] at e; cases e
    have hk2 : ∀ b o, b ∉ [z, TI, TO, i1, i2] → s.heap.get? b = some o → h'.get? b = some o := fun b o hb e => hk b o (fun q4 => hb (sub4 q4)) e
    refine I.step (g' := s.gens) (d' := s.drawn) (ch := [z, TI, TO, i1, i2]) (fun b hb => ⟨(hf b hb).2.2.2.1, (hf b hb).2.1, (hf b hb).2.2.2.2.1, (hf b hb).2.2.2.2.2⟩) (fun b o _ _ hc e _ => hk2 b o hc e) (fun b o _ _ hc e _ => ⟨o.slots, hk2 b o hc e⟩)
      (fun _ _ _ _ n => n) (fun b o hc e => ⟨o, hk2 b o hc e⟩) (fun _ _ e => e) (fun _ _ _ e => e) (fun b ps e => ⟨#[], by rw [e]; simp⟩) (fun m hm => ?_) (fun b u e => ?_) I.bare
    · obtain ⟨o, es, ep, ho, r⟩ := hm
      exact ⟨o, es, ep, hk2 _ o (fun q => (hf _ q).2.1 rfl) ho, r⟩
    · refine (I.hok b u e).stay (fun c v hc q => hk2 c v ?_ q) (fun _ q => q) fun _ _ q => q
      rcases hc with q | q
      · rw [q]; exact nit b u e
      · exact nit c _ q
  self := fun A i s Q E st h => by
    obtain ⟨h1, _⟩ := st
    exact wpAny_pyIter_zip h1 h
end Mi

/-! Mi6: enumerate, and what a for walks, by data. -/
namespace Mi
open PySem PySem.Spec PyProof.Rows L2

set_option maxHeartbeats 1000000 in
theorem meets_enum1 {v : Value} {o : Obj} {Hb : Heap → Prop} (B : Begins v o Hb) :
    Meets (Builtin.«enumerate.__new__» ⟨[.type "enumerate", v], []⟩) (fun _ R s => Hb s.heap ∧
      R (.ok (.ret (.ref (s.heap.push o).objs.size))) { s with heap := (s.heap.push o).push { cls := .type "enumerate", data := .fields #[.none, .bool false, .ref s.heap.objs.size, rawInt 0, .none, .none] } }) :=
  .of_wp fun prog w A R s h => by
    obtain ⟨hp, g, d, tk, os⟩ := s
    obtain ⟨h1, h⟩ := h
    have hsub := sub_enumerate
    have q1 : ∀ {A' : Around} {E : Value → Shared → Prop} {Q : Value → Shared → Prop}, Q (.ref hp.objs.size) ⟨hp.push o, g, d, tk, os⟩ → wpAny (model prog w) A' (pyIter v) Q E ⟨hp, g, d, tk, os⟩ :=
      fun q => B.iter prog w _ _ ⟨hp, g, d, tk, os⟩ _ h1 q
    wp_walk using q1
    refine wpAny_stack_any fun st => wpAny_pure ?_
    split
    · rename_i c _ _ _ _ _
      cases (c == Value.type "enumerate")
      · wp_walk using q1
        exact ⟨_, rfl, h⟩
      · wp_walk using q1
        exact ⟨_, rfl, h⟩
    · wp_walk using q1
      exact ⟨_, rfl, h⟩
theorem enum1 {prog : Program} {w : World} {A : Around} {E : Value → Shared → Prop} {s : Shared} {v : Value} {o : Obj} {Hb : Heap → Prop} {Q : Value → Shared → Prop} (B : Begins v o Hb) (h1 : Hb s.heap)
    (h : ∀ h', IsEnum h' (s.heap.objs.size + 1) s.heap.objs.size 0 .none → h'.get? s.heap.objs.size = some o → h'.objs.size = s.heap.objs.size + 2 → (∀ b o, s.heap.get? b = some o → h'.get? b = some o) → Q (.ref (s.heap.objs.size + 1)) { s with heap := h' }) :
    wpAny (model prog w) A (call (.type "enumerate") [v]) Q E s := by
  refine callType_new F.called_enumerate (by decide) (F.typeCall_enumerate_1 _) (F.newCall_enumerate_1 _) (fun obj => F.args_object_init_2 obj _) F.entry_enumerate_new (meets_enum1 B) ⟨h1, ?_⟩
  have hz : (s.heap.push o).objs.size = s.heap.objs.size + 1 := Heap.size_push ..
  show _ ∧ _
  rw [hz]
  have he : IsEnum ((s.heap.push o).push { cls := .type "enumerate", data := .fields #[.none, .bool false, .ref s.heap.objs.size, rawInt 0, .none, .none] }) (s.heap.objs.size + 1) s.heap.objs.size 0 .none := by
    have z := Heap.get?_push_size (s.heap.push o) (o := { cls := .type "enumerate", data := .fields #[.none, .bool false, .ref s.heap.objs.size, rawInt 0, .none, .none] }) rfl
    rw [hz] at z
    exact z
  exact ⟨⟨_, he, rfl⟩, h _ he (Heap.get?_push_of_some _ (Heap.get?_push_size _ B.free)) (by rw [Heap.size_push, hz]) fun b o x => Heap.get?_push_of_some _ (Heap.get?_push_of_some _ x)⟩

def ItE (K : PySem.W.Frag) (k1 : Kd) (xs : List V) : It :=
  ⟨fun i H => k1.on K H xs ∧ i < xs.length, fun i H v H' => ∃ T x, v = .ref T ∧ H T = none ∧ H' = upd H T (.tup [.int (i : Nat), x]) ∧ xs[i]? = some x, fun i H => k1.on K H xs ∧ i = xs.length⟩
def EnSt (k1 : Kd) (e it : Addr) (i : Nat) (h : Heap) : Prop := (∃ old, IsEnum h e it (0 + (i : Int)) old) ∧ k1.st it i h
theorem turn_enum2 {P : Program} {w : World} {K : PySem.W.Frag} {elts : List Expr} {kk : Nat} {tpos : Pos} {k1 : Kd} {xs : List V} {e it : Addr} (D : e ≠ it) : Turn P w K (.Tuple elts kk tpos) (ItE K k1 xs) [e, it] e (EnSt k1 e it) where
  mem := by simp
  obj := fun i h st b hb => by
    obtain ⟨⟨old, h1⟩, h4⟩ := st
    have e' : b = e ∨ b = it := by simpa using hb
    rcases e' with q | q
    · rw [q]; exact ⟨_, h1, fun v z => nomatch z⟩
    · rw [q]; exact Kd.here h4
  keep := fun i h h' st k => by
    obtain ⟨⟨old, h1⟩, h4⟩ := st
    exact ⟨⟨old, k e (by simp) _ h1⟩, Kd.keep h4 fun o z => k it (by simp) o z⟩
  item := by
    intro X hP hw hK hc i pins s σ H E I hf st hg
    subst hP hw hK
    obtain ⟨on1, hi⟩ := hg
    have n1 : ∀ b ∈ [e, it], b ∉ k1.src := fun b hb => Kd.apart I on1 (hf b hb)
    have hh : X.A.in1.handled = none := I.ok.hd hc
    obtain ⟨P1, S1, D1, a1, b1, c1⟩ := Kd.draws I on1 hh (n1 it (by simp))
    have G := GoesN.enumFrom (elts := elts) (x1 := kk) (pos := tpos) 0 D1 e D (fun q => by
      rcases List.mem_cons.mp q with q | q
      · exact D q
      · exact n1 e (by simp) q) List.mem_cons_self
    obtain ⟨⟨old, h1⟩, h4⟩ := st
    have lt : ∀ b ∈ [e, it], b < s.heap.objs.size := fun b hb => by
      have e' : b = e ∨ b = it := by simpa using hb
      rcases e' with q | q
      · rw [q]; exact Heap.lt_size h1
      · rw [q]; obtain ⟨o, e, _⟩ := Kd.here h4; exact Heap.lt_size e
    refine wpAny_mono (G.goes i s (fun v s2 => ∃ x H', Inv X pins σ H' s2 ∧ RelV x v ∧ (ItE X.K k1 xs).yld i H x H' ∧ EnSt k1 e it (i + 1) s2.heap ∧ ∀ b ∈ [e, it], H' b = none) E hi ⟨⟨old, h1⟩, a1 i h4⟩ fun v h' tk hY st' hk htk => ?_) (fun r s1 ⟨v, e, q⟩ => ⟨v, e, q⟩) fun _ _ q => q
    obtain ⟨T, t, x, rfl, hT, p1, ht⟩ := hY
    obtain ⟨x', ex, rx⟩ := c1 i x p1
    have hn : H T = none := I.hok.fresh hT
    rw [Int.zero_add] at ht
    have new : ObjOk X.prog X.w (upd H T (.tup [.int (i : Nat), x'])) h' T (.tup [.int (i : Nat), x']) := ⟨by show 2 ≤ sizeLine; decide, [.int (i : Nat) t, x], .cons ⟨t, rfl⟩ (.cons rx .nil), ht⟩
    have I1 : Inv X pins σ (upd H T (.tup [.int (i : Nat), x'])) { s with heap := h', toks := tk } := I.turnedNew (ch := [e, it]) (fun b ob hb q => hk b ob hb q) hf hT new
    refine ⟨.ref T, _, I1, rfl, ⟨T, x', rfl, hn, rfl, ex⟩, ⟨st'.1, b1 _ _ st'.2⟩, fun b hb => ?_⟩
    rw [upd_ne (Nat.ne_of_lt (Nat.lt_of_lt_of_le (lt b hb) hT))]
    exact (hf b hb).1
  done := by
    intro X hP hw hK hc i pins s σ H E I hf st hg
    subst hP hw hK
    obtain ⟨on1, hi⟩ := hg
    have n1 : ∀ b ∈ [e, it], b ∉ k1.src := fun b hb => Kd.apart I on1 (hf b hb)
    have hh : X.A.in1.handled = none := I.ok.hd hc
    obtain ⟨P1, S1, D1, a1, b1, c1⟩ := Kd.draws I on1 hh (n1 it (by simp))
    have G := GoesN.enumFrom (elts := elts) (x1 := kk) (pos := tpos) 0 D1 e D (fun q => by
      rcases List.mem_cons.mp q with q | q
      · exact D q
      · exact n1 e (by simp) q) List.mem_cons_self
    obtain ⟨h1, h4⟩ := st
    subst hi
    refine G.stops s (fun s1 => Inv X pins σ H s1) E ⟨h1, a1 _ h4⟩ fun h' tk hk2 htk => ?_
    have nit : ∀ b u, H b = some u → b ∉ [e, it] := fun b u e q => by rw [(hf b q).1] at e; cases e
    refine I.step (g' := s.gens) (d' := s.drawn) (ch := [e, it]) (fun b hb => ⟨(hf b hb).2.2.2.1, (hf b hb).2.1, (hf b hb).2.2.2.2.1, (hf b hb).2.2.2.2.2⟩) (fun b o _ _ hc e _ => hk2 b o hc e) (fun b o _ _ hc e _ => ⟨o.slots, hk2 b o hc e⟩)
      (fun _ _ _ _ n => n) (fun b o hc e => ⟨o, hk2 b o hc e⟩) (fun _ _ e => e) (fun _ _ _ e => e) (fun b ps e => ⟨#[], by rw [e]; simp⟩) (fun m hm => ?_) (fun b u e => ?_) I.bare
    · obtain ⟨o, es, ep, ho, r⟩ := hm
      exact ⟨o, es, ep, hk2 _ o (fun q => (hf _ q).2.1 rfl) ho, r⟩
    · refine (I.hok b u e).stay (fun c v hc q => hk2 c v ?_ q) (fun _ q => q) fun _ _ q => q
      rcases hc with q | q
      · rw [q]; exact nit b u e
      · exact nit c _ q
  self := fun A i s Q E st h => by
    obtain ⟨⟨_, h1⟩, _⟩ := st
    exact wpAny_pyIter_enum h1 h

/-! ### the rules -/
/-- a value that may be walked: its kind (the texts' token left open) -/
inductive Sq (K : PySem.W.Frag) (H : Hp) : V → List V → Prop
  | ls {a : Addr} {xs : List V} : SqL K H a xs → Sq K H (.ref a) xs
  | tp {a : Addr} {xs : List V} : SqT K H a xs → Sq K H (.ref a) xs
  | sg {z : Str} : Sq K H (.str z) (sgV z)
theorem Sq.kd {K : PySem.W.Frag} {H : Hp} {v : V} {xs : List V} {u : Value} (h : Sq K H v xs) (r : RelV v u) : ∃ k : Kd, k.val = u ∧ k.on K H xs := by
  cases h with
  | ls h => cases r; exact ⟨.ls _, rfl, h⟩
  | tp h => cases r; exact ⟨.tp _, rfl, h⟩
  | sg => obtain ⟨t, rfl⟩ := r; exact ⟨.sg _ t, rfl, rfl⟩
/-- zip(a, b), enumerate(a) -/
def iZ2 (K : PySem.W.Frag) (ta : TA) : TI := fun σ H R => ta σ H fun vs H1 => ∃ B v w xs ys, Le B H1 ∧ vs = [v, w] ∧ Sq K B v xs ∧ Sq K B w ys ∧ ∀ k1 k2 : Kd, k1.on K B xs → k2.on K B ys → R (ItZ K k1 k2 xs ys) H1
def iE2 (K : PySem.W.Frag) (ta : TA) : TI := fun σ H R => ta σ H fun vs H1 => ∃ B v xs, Le B H1 ∧ vs = [v] ∧ Sq K B v xs ∧ ∀ k1 : Kd, k1.on K B xs → R (ItE K k1 xs) H1
section
variable {X : Cx}
theorem pi_z2 {e e2 : Expr} {ta : TA} {p pos tpos : Pos} {elts : List Expr} {kk : Nat} (hm : X.mg "zip" = none) (ha : PA X [e, e2] ta) (hg : Gl X "zip")
    (hs : starEach [e, e2] X.env = [(false, eval e X.env), (false, eval e2 X.env)]) (hs2 : starEach [e2] X.env = [(false, eval e2 X.env)]) :
    PI X (.Tuple elts kk tpos) (.Call (.Name "zip" p) [e, e2] [] pos) (iZ2 X.K ta) := by
  refine ⟨fun pins s σ H R I h => ?_⟩
  refine Call_ (ld_blt I hg hm boot_zip (PyProof.Rows.callWith_type1 (thn (ha.run pos pins s σ H _ I h) fun us s1 ⟨vs, H1, I1, r1, q1⟩ => ?_) (by rw [hs, hs2]) (by rw [hs2]; rfl)))
  obtain ⟨B, v, w, xs, ys, bh, ex, h1, h2, q⟩ := q1
  subst ex
  cases r1 with
  | cons ra rr =>
    cases rr with
    | cons rb rr =>
      cases rr
      obtain ⟨k1, e1, on1⟩ := h1.kd ra
      obtain ⟨k2, e2', on2⟩ := h2.kd rb
      subst e1 e2'
      obtain ⟨Hb1, B1, g1⟩ := Kd.begins I1 (Kd.on_mono bh on1)
      obtain ⟨Hb2, B2, g2⟩ := Kd.begins I1 (Kd.on_mono bh on2)
      refine zip_begins2 B1 B2 g1 g2 fun h' c1 c2 c3 c4 c5 c6 c7 => wpAny_pyIter_zip c1 ?_
      have I2 : Inv X pins σ H1 { s1 with heap := h' } := I1.kept (t' := s1.toks) c7
      refine ⟨s1.heap.objs.size + 4, [s1.heap.objs.size + 4, s1.heap.objs.size + 2, s1.heap.objs.size + 3, s1.heap.objs.size, s1.heap.objs.size + 1], _, _, H1, rfl, I2, turn_zip2 (k1 := k1) (k2 := k2) (xs := xs) (ys := ys) ?_, ⟨c1, c2, ⟨_, _, c3⟩, Kd.init c4, Kd.init c5⟩, fun b hb => ?_,
        q k1 k2 on1 on2⟩
      · refine ⟨?_, ?_, ?_, ?_, ?_, ?_, ?_, ?_, ?_, ?_⟩ <;> exact fun z => by
          have z' : (_ : Nat) = _ := z
          omega
      · have hle : s1.heap.objs.size ≤ b := by
          have e' : b = s1.heap.objs.size + 4 ∨ b = s1.heap.objs.size + 2 ∨ b = s1.heap.objs.size + 3 ∨ b = s1.heap.objs.size ∨ b = s1.heap.objs.size + 1 := by simpa using hb
          rcases e' with q | q | q | q | q
          · rw [q]; exact Nat.le_add_right _ _
          · rw [q]; exact Nat.le_add_right _ _
          · rw [q]; exact Nat.le_add_right _ _
          · rw [q]; exact Nat.le_refl _
          · rw [q]; exact Nat.le_add_right _ _
        exact I1.fpOk hle (I1.hok.fresh hle)
theorem pi_e2 {e : Expr} {ta : TA} {p pos tpos : Pos} {elts : List Expr} {kk : Nat} (hm : X.mg "enumerate" = none) (ha : PA X [e] ta) (hg : Gl X "enumerate") (hs : starEach [e] X.env = [(false, eval e X.env)]) :
    PI X (.Tuple elts kk tpos) (.Call (.Name "enumerate" p) [e] [] pos) (iE2 X.K ta) := by
  refine ⟨fun pins s σ H R I h => ?_⟩
  refine Call_ (ld_blt I hg hm boot_enumerate (PyProof.Rows.callWith_type1 (thn (ha.run pos pins s σ H _ I h) fun us s1 ⟨vs, H1, I1, r1, q1⟩ => ?_) hs rfl))
  obtain ⟨B, v, xs, bh, ex, h1, q⟩ := q1
  subst ex
  cases r1 with
  | cons ra rr =>
    cases rr
    obtain ⟨k1, e1, on1⟩ := h1.kd ra
    subst e1
    obtain ⟨Hb1, B1, g1⟩ := Kd.begins I1 (Kd.on_mono bh on1)
    refine enum1 B1 g1 fun h' c1 c2 c3 c4 => wpAny_pyIter_enum c1 ?_
    have I2 : Inv X pins σ H1 { s1 with heap := h' } := I1.kept (t' := s1.toks) c4
    refine ⟨s1.heap.objs.size + 1, [s1.heap.objs.size + 1, s1.heap.objs.size], _, _, H1, rfl, I2, turn_enum2 (k1 := k1) (xs := xs) (Nat.succ_ne_self _), ⟨⟨_, by rw [show (0 : Int) + ((0 : Nat) : Int) = 0 from rfl]; exact c1⟩, Kd.init c2⟩, fun b hb => ?_, q k1 on1⟩
    have e' : b = s1.heap.objs.size + 1 ∨ b = s1.heap.objs.size := by simpa using hb
    have hle : s1.heap.objs.size ≤ b := by
      rcases e' with z | z
      · rw [z]; exact Nat.le_add_right _ _
      · rw [z]; exact Nat.le_refl _
    exact I1.fpOk hle (I1.hok.fresh hle)
/-- any value: a list, a tuple, a text, a locked dict -/
def iAny (K : PySem.W.Frag) (tl : TE) : TI := fun σ H R => tl σ H fun x H1 => (∃ a xs, x = .ref a ∧ SqL K H1 a xs ∧ R (Itl K a) H1) ∨ (∃ a xs, x = .ref a ∧ SqT K H1 a xs ∧ R (Itt K a) H1) ∨ (∃ z, x = .str z ∧ R (Its z) H1) ∨ ∃ d o kvs, x = .ref d ∧ H1 d = some (.frz o (.dK kvs)) ∧ R (Itk d o kvs) H1
theorem pi_any {tg l : Expr} {tl : TE} (hl : PE X l tl) : PI X tg l (iAny X.K tl) := by
  refine ⟨fun pins s σ H R I h => ?_⟩
  refine thn (hl.run pins s σ H _ I h) fun v s1 ⟨x, H1, I1, r1, q1⟩ => ?_
  rcases q1 with ⟨a, xs, e, hq, q⟩ | ⟨a, xs, e, hq, q⟩ | ⟨z, e, q⟩ | ⟨d, o, kvs, e, hd, q⟩
  · subst e
    cases r1
    obtain ⟨its, rv, p, hz⟩ := I1.list hq
    exact wpAny_pyIter_list p.isList (pi_one (tk := s1.toks) I1 _ (turn_list a _) ⟨_, Heap.get?_push_size _ rfl, rfl, rfl⟩ q)
  · subst e
    cases r1
    obtain ⟨its, rv, p, hz⟩ := I1.tuple hq
    exact wpAny_pyIter_tuple (show s1.heap.IsTuple a its.toArray from p) (pi_one (tk := s1.toks) I1 _ (turn_tuple a _) ⟨_, Heap.get?_push_size _ rfl, rfl, rfl⟩ q)
  · subst e
    obtain ⟨t, rfl⟩ := r1
    cases ha : z.cps.all (· < 128)
    · exact wpAny_pyIter_wide ha (pi_one (tk := s1.toks) I1 _ (turn_str _ z t "str_iterator" (.inr rfl)) ⟨_, Heap.get?_push_size _ rfl, rfl, rfl⟩ q)
    · exact wpAny_pyIter_ascii ha (pi_one (tk := s1.toks) I1 _ (turn_str _ z t "str_ascii_iterator" (.inl rfl)) ⟨_, Heap.get?_push_size _ rfl, rfl, rfl⟩ q)
  · subst e
    cases r1
    obtain ⟨hs, hgd, hx, es, ep, vs, hdt, hsz, kv, hm⟩ := I1.frzK hd
    refine iter_keys hs hgd hx hdt (pi_one (tk := s1.toks) I1 _ (turn_keys _ hdt) ⟨_, Heap.get?_push_size _ rfl, rfl, ?_⟩ q)
    rw [hsz] <;> rfl
end

/-! ### by data -/
def sgD (z : Str) : List Da := z.cps.toList.map fun c => PyData.str ⟨#[c]⟩
theorem rep_sg {K : PySem.W.Frag} {B : Hp} (z : Str) : RepAll K B (sgV z) (sgD z) := by
  unfold sgV sgD
  generalize z.cps.toList = l
  induction l with
  | nil => exact .nil
  | cons c l ih => exact .cons (.str _) ih
/-- what is walked through -/
def itemsD : Da → R (List Da)
  | .list ds => .ok ds
  | .tuple ds => .ok ds
  | .str z => .ok (sgD z)
  | .dict kds => .ok (kds.map (·.1))
  | _ => .no
theorem yl_list {K : PySem.W.Frag} {B : Hp} {a : Addr} {xs : List V} {ds : List Da} (h : SqL K B a xs) (r : RepAll K B xs ds) : Yl K (Itl K a) B ds where
  go := fun i H hi l => by
    obtain ⟨v, e, _⟩ := r.get (List.getElem?_eq_getElem hi)
    exact ⟨xs, v, l.sl h, e⟩
  st := fun H l => ⟨xs, l.sl h, Nat.le_of_eq r.length⟩
  yd := fun i H x H' d B2 e b0 bh ⟨e1, y⟩ => by
    subst e1
    obtain ⟨v, e2, hv⟩ := r.get e
    have e3 := y xs ((b0.trans bh).sl h)
    rw [e2] at e3
    cases e3
    exact ⟨B2, Stp.refl bh, hv.mono b0⟩
theorem yl_tup {K : PySem.W.Frag} {B : Hp} {a : Addr} {xs : List V} {ds : List Da} (h : SqT K B a xs) (r : RepAll K B xs ds) : Yl K (Itt K a) B ds where
  go := fun i H hi l => by
    obtain ⟨v, e, _⟩ := r.get (List.getElem?_eq_getElem hi)
    exact ⟨xs, v, l.st h, e⟩
  st := fun H l => ⟨xs, l.st h, Nat.le_of_eq r.length⟩
  yd := fun i H x H' d B2 e b0 bh ⟨e1, y⟩ => by
    subst e1
    obtain ⟨v, e2, hv⟩ := r.get e
    have e3 := y xs ((b0.trans bh).st h)
    rw [e2] at e3
    cases e3
    exact ⟨B2, Stp.refl bh, hv.mono b0⟩
theorem sgD_len (z : Str) : (sgD z).length = z.cps.size := by
  unfold sgD
  rw [List.length_map, Array.length_toList]
theorem yl_str {K : PySem.W.Frag} {B : Hp} {z : Str} : Yl K (Its z) B (sgD z) where
  go := fun i H hi l => by
    rw [sgD_len] at hi
    exact hi
  st := fun H l => Nat.le_of_eq (sgD_len z).symm
  yd := fun i H x H' d B2 e b0 bh ⟨e1, c, ec, ex⟩ => by
    subst e1 ex
    unfold sgD at e
    rw [List.getElem?_map, Array.getElem?_toList, ec] at e
    cases e
    exact ⟨B2, Stp.refl bh, .str _⟩
theorem kv_get {K : PySem.W.Frag} {B : Hp} : ∀ {kvs : List (Key × V)} {kds : List (Da × Da)} {i : Nat} {k : Key} {v : V}, RepKV K B kvs kds → kvs[i]? = some (k, v) → ∃ d, kds[i]? = some (kD k, d) ∧ Rep K B v d
  | _, _, _, _, _, .nil, e => by simp at e
  | _, _, 0, _, _, .cons h _, e => by
    simp at e
    obtain ⟨rfl, rfl⟩ := e
    exact ⟨_, rfl, h⟩
  | _, _, i + 1, k, v, .cons _ t, e => by
    obtain ⟨d, h1, h2⟩ := kv_get (i := i) (k := k) (v := v) t (by simpa using e)
    exact ⟨d, by simpa using h1, h2⟩
theorem rep_k {K : PySem.W.Frag} {B : Hp} : ∀ k : Key, Rep K B (kV k) (kD k)
  | .inl i => .int i
  | .inr x => .str x
theorem yl_dict {K : PySem.W.Frag} {B : Hp} {d : Addr} {o : Obj} {kvs : List (Key × V)} {kds : List (Da × Da)} (h : B d = some (.frz o (.dK kvs))) (r : RepKV K B kvs kds) : Yl K (Itk d o kvs) B (kds.map (·.1)) where
  go := fun i H hi l => ⟨l _ _ h, by rw [List.length_map, ← r.length] at hi; exact hi⟩
  st := fun H l => ⟨l _ _ h, by rw [List.length_map]; exact Nat.le_of_eq r.length⟩
  yd := fun i H x H' e B2 ee b0 bh ⟨e1, k, v, ek, ex⟩ => by
    subst e1 ex
    obtain ⟨d', e2, _⟩ := kv_get r ek
    rw [List.getElem?_map, e2] at ee
    cases ee
    exact ⟨B2, Stp.refl bh, rep_k k⟩
section
variable {cls : String → Value} {X : Cx} {W : WX}
def iD (f : Env → R Da) : Env → R (List Da) := fun r => (f r).bind itemsD
theorem di_any {tg e : Expr} {f : Env → R Da} (he : DE cls X W e f) : DI cls X W tg e (iD f) := by
  obtain ⟨t, pt, h⟩ := he.run
  refine ⟨_, pi_any pt, fun F B H σ r Q k p => h F B H σ r _ k (p.bind.imp fun d B' H' s q v hv => ?_)⟩
  cases d with
  | list ds =>
    cases hv with
    | lst hs hr => exact .inl ⟨_, _, rfl, s.bh.sl hs, q B' H' (Stp.refl s.bh) _ (yl_list hs hr)⟩
  | tuple ds =>
    cases hv with
    | tup hs hr => exact .inr (.inl ⟨_, _, rfl, s.bh.st hs, q B' H' (Stp.refl s.bh) _ (yl_tup hs hr)⟩)
  | str z =>
    cases hv
    exact .inr (.inr (.inl ⟨z, rfl, q B' H' (Stp.refl s.bh) _ yl_str⟩))
  | dict kds =>
    cases hv with
    | dct hs hr => exact .inr (.inr (.inr ⟨_, _, _, rfl, s.bh _ _ hs, q B' H' (Stp.refl s.bh) _ (yl_dict hs hr)⟩))
  | none => exact q.elim
  | bool b => exact q.elim
  | int b => exact q.elim
/-- what zip and enumerate walk -/
def seqD : Da → R (List Da)
  | .list ds => .ok ds
  | .tuple ds => .ok ds
  | .str z => .ok (sgD z)
  | _ => .no
theorem sq_of {K : PySem.W.Frag} {B : Hp} {v : V} {d : Da} {ds : List Da} (h : Rep K B v d) (e : seqD d = .ok ds) : ∃ xs, Sq K B v xs ∧ RepAll K B xs ds := by
  cases h with
  | lst hs hr =>
    cases e
    exact ⟨_, .ls hs, hr⟩
  | tup hs hr =>
    cases e
    exact ⟨_, .tp hs, hr⟩
  | str z =>
    cases e
    exact ⟨_, .sg, rep_sg z⟩
  | non => cases e
  | bl b => cases e
  | int b => cases e
  | dct a b => cases e
theorem Sq.mono {K : PySem.W.Frag} {H H' : Hp} {v : V} {xs : List V} (h : Sq K H v xs) (e : Le H H') : Sq K H' v xs := by
  cases h with
  | ls h => exact .ls (e.sl h)
  | tp h => exact .tp (e.st h)
  | sg => exact .sg
def zipD (f g : Da) : R (List Da) := (seqD f).bind fun xs => (seqD g).bind fun ys => .ok ((xs.zip ys).map fun p => .tuple [p.1, p.2])
def iZip (f g : Env → R Da) : Env → R (List Da) := fun r => (f r).bind fun x => (g r).bind fun y => zipD x y
def enumF (i : Nat) : List Da → List Da
  | [] => []
  | x :: xs => .tuple [.int (i : Nat), x] :: enumF (i + 1) xs
def enumD (f : Da) : R (List Da) := (seqD f).bind fun xs => .ok (enumF 0 xs)
def iEnu (f : Env → R Da) : Env → R (List Da) := fun r => (f r).bind enumD
theorem yl_zip {K : PySem.W.Frag} {B : Hp} {k1 k2 : Kd} {xs ys : List V} {ds es : List Da} (h1 : k1.on K B xs) (h2 : k2.on K B ys) (r1 : RepAll K B xs ds) (r2 : RepAll K B ys es) : Yl K (ItZ K k1 k2 xs ys) B ((ds.zip es).map fun p => .tuple [p.1, p.2]) where
  go := fun i H hi l => ⟨Kd.on_mono l h1, Kd.on_mono l h2, by
    rw [List.length_map, List.length_zip, ← r1.length, ← r2.length] at hi
    exact hi⟩
  st := fun H l => ⟨Kd.on_mono l h1, Kd.on_mono l h2, by rw [List.length_map, List.length_zip, ← r1.length, ← r2.length]⟩
  yd := fun i H x H' d B2 e b0 bh ⟨T, x1, y1, ex, hn, eH, e1, e2⟩ => by
    subst ex eH
    obtain ⟨d1, f1, q1⟩ := r1.get' e1
    obtain ⟨d2, f2, q2⟩ := r2.get' e2
    have ez : (ds.zip es)[i]? = some (d1, d2) := by rw [List.getElem?_zip_eq_some]; exact ⟨f1, f2⟩
    rw [List.getElem?_map, ez] at e
    cases e
    have l : Le B2 (upd B2 T (.tup [x1, y1])) := Le.new (bh.back hn)
    exact ⟨_, Stp.new bh hn, .tup (.inl (.inl upd_same)) (.cons ((q1.mono b0).mono l) (.cons ((q2.mono b0).mono l) .nil))⟩
theorem enumF_len : ∀ (i : Nat) (ds : List Da), (enumF i ds).length = ds.length
  | _, [] => rfl
  | i, d :: ds => by
    show (enumF (i + 1) ds).length + 1 = ds.length + 1
    rw [enumF_len (i + 1) ds]
theorem enumF_get : ∀ (ds : List Da) (j i : Nat), (enumF j ds)[i]? = (ds[i]?).map fun d => PyData.tuple [.int ((j + i : Nat) : Int), d]
  | [], j, i => by simp [enumF]
  | d :: ds, j, 0 => by simp [enumF]
  | d :: ds, j, i + 1 => by
    show (enumF (j + 1) ds)[i]? = _
    rw [enumF_get ds (j + 1) i, show j + 1 + i = j + (i + 1) by omega]
    simp
theorem yl_enum {K : PySem.W.Frag} {B : Hp} {k1 : Kd} {xs : List V} {ds : List Da} (h1 : k1.on K B xs) (r1 : RepAll K B xs ds) : Yl K (ItE K k1 xs) B (enumF 0 ds) where
  go := fun i H hi l => ⟨Kd.on_mono l h1, by rw [enumF_len, ← r1.length] at hi; exact hi⟩
  st := fun H l => ⟨Kd.on_mono l h1, by rw [enumF_len, ← r1.length]⟩
  yd := fun i H x H' d B2 e b0 bh ⟨T, x1, ex, hn, eH, e1⟩ => by
    subst ex eH
    obtain ⟨d1, f1, q1⟩ := r1.get' e1
    rw [enumF_get, f1, Nat.zero_add] at e
    cases e
    have l : Le B2 (upd B2 T (.tup [.int (i : Nat), x1])) := Le.new (bh.back hn)
    exact ⟨_, Stp.new bh hn, .tup (.inl (.inl upd_same)) (.cons (.int _) (.cons ((q1.mono b0).mono l) .nil))⟩
theorem di_zip {e e2 : Expr} {f g : Env → R Da} {p pos tpos : Pos} {elts : List Expr} {kk : Nat} (hm : X.mg "zip" = none) (ha : DE cls X W e f) (hb : DE cls X W e2 g) (hg : Gl X "zip" := by rfl)
    (hs : starEach [e, e2] X.env = [(false, eval e X.env), (false, eval e2 X.env)] := by rfl) (hs2 : starEach [e2] X.env = [(false, eval e2 X.env)] := by rfl) : DI cls X W (.Tuple elts kk tpos) (.Call (.Name "zip" p) [e, e2] [] pos) (iZip f g) := by
  obtain ⟨ta, pa, ha⟩ := ha.run
  obtain ⟨tb, pb, hb⟩ := hb.run
  refine ⟨_, pi_z2 hm (pa_cons pa (pa_cons pb pa_nil (by rw [hs2]; rfl)) (by rw [hs, hs2])) hg hs hs2, fun F B H σ r Q k p => ?_⟩
  refine ha F B H σ r _ k (p.bind.imp fun d1 B1 H1 s1 p1 v hv => hb F B1 H1 σ r _ (k.stp s1) (p1.bind.imp fun d2 B2 H2 s2 p2 w hw => ?_))
  unfold zipD at p2
  cases e1 : seqD d1 with
  | no => rw [e1] at p2; exact p2.elim
  | er c => rw [e1] at p2; cases d1 <;> cases e1
  | ok ds =>
    rw [e1, R.ok_bind] at p2
    cases e2' : seqD d2 with
    | no => rw [e2'] at p2; exact p2.elim
    | er c => rw [e2'] at p2; cases d2 <;> cases e2'
    | ok es =>
      rw [e2', R.ok_bind] at p2
      obtain ⟨xs, q1, r1⟩ := sq_of (hv.mono s2.gr.1) e1
      obtain ⟨ys, q2, r2⟩ := sq_of hw e2'
      exact ⟨B2, v, w, xs, ys, s2.bh, rfl, q1, q2, fun k1 k2 o1 o2 => p2 B2 H2 (Stp.refl s2.bh) _ (yl_zip o1 o2 r1 r2)⟩
theorem di_enum {e : Expr} {f : Env → R Da} {p pos tpos : Pos} {elts : List Expr} {kk : Nat} (hm : X.mg "enumerate" = none) (ha : DE cls X W e f) (hg : Gl X "enumerate" := by rfl) (hs : starEach [e] X.env = [(false, eval e X.env)] := by rfl) :
    DI cls X W (.Tuple elts kk tpos) (.Call (.Name "enumerate" p) [e] [] pos) (iEnu f) := by
  obtain ⟨ta, pa, ha⟩ := ha.run
  refine ⟨_, pi_e2 hm (pa_cons pa pa_nil (by rw [hs]; rfl)) hg hs, fun F B H σ r Q k p => ?_⟩
  refine ha F B H σ r _ k (p.bind.imp fun d1 B1 H1 s1 p2 v hv => ?_)
  unfold enumD at p2
  cases e1 : seqD d1 with
  | no => rw [e1] at p2; exact p2.elim
  | er c => rw [e1] at p2; cases d1 <;> cases e1
  | ok ds =>
    rw [e1, R.ok_bind] at p2
    obtain ⟨xs, q1, r1⟩ := sq_of hv e1
    exact ⟨B1, v, xs, s1.bh, rfl, q1, fun k1 o1 => p2 B1 H1 (Stp.refl s1.bh) _ (yl_enum o1 r1)⟩
/-- range(n), range(a, b), range(a, b, c) with a written step of -1 -/
def rgD (a b : Int) : R (List Da) := if -1000000 ≤ a ∧ a ≤ 1000000 ∧ -1000000 ≤ b ∧ b ≤ 1000000 then .ok ((List.range (b - a).toNat).map fun i => .int (a + (i : Nat))) else .no
def iR1 (f : Env → R Da) : Env → R (List Da) := fun r => (f r).bind fun d => match d with
  | .int n => rgD 0 n
  | _ => .no
def iR2 (f g : Env → R Da) : Env → R (List Da) := fun r => (f r).bind fun d => (g r).bind fun e => match d, e with
  | .int a, .int b => rgD a b
  | _, _ => .no
theorem yl_range {K : PySem.W.Frag} {B : Hp} {lo : Int} {n : Nat} : Yl K (Itr lo n) B ((List.range n).map fun i => PyData.int (lo + (i : Nat))) where
  go := fun i H hi l => by
    rw [List.length_map, List.length_range] at hi
    exact hi
  st := fun H l => by
    rw [List.length_map, List.length_range]
    exact Nat.le_refl _
  yd := fun i H x H' d B2 e b0 bh ⟨e1, e2⟩ => by
    subst e1 e2
    rw [List.getElem?_map] at e
    cases q : (List.range n)[i]? with
    | none => rw [q] at e; cases e
    | some j =>
      rw [q] at e
      cases e
      obtain ⟨h1, h2⟩ := List.getElem?_eq_some_iff.mp q
      rw [List.getElem_range] at h2
      subst h2
      exact ⟨B2, Stp.refl bh, .int _⟩
theorem di_r1 {tg e : Expr} {f : Env → R Da} {p pos : Pos} (hm : X.mg "range" = none) (ha : DE cls X W e f) (hg : Gl X "range" := by rfl) (hs : starEach [e] X.env = [(false, eval e X.env)] := by rfl) :
    DI cls X W tg (.Call (.Name "range" p) [e] [] pos) (iR1 f) := by
  obtain ⟨ta, pa, ha⟩ := ha.run
  refine ⟨_, pi_range1 hg hm (pa_cons pa pa_nil (by rw [hs]; rfl)) hs, fun F B H σ r Q k p => ?_⟩
  refine ha F B H σ r _ k (p.bind.imp fun d1 B1 H1 s1 p2 v hv => ?_)
  cases d1 with
  | int n =>
    cases hv
    have p2 : Pw cls B1 H1 σ W (WfI X.K Q) (if (-1000000 ≤ (0 : Int) ∧ (0 : Int) ≤ 1000000 ∧ -1000000 ≤ n ∧ n ≤ 1000000) then .ok ((List.range (n - 0).toNat).map fun i => PyData.int (0 + (i : Nat))) else .no) := p2
    split at p2
    · rename_i hb
      have e0 : (n - 0).toNat = n.toNat := by rw [Int.sub_zero]
      rw [e0] at p2
      exact ⟨n, rfl, by omega, by omega, p2 B1 H1 (Stp.refl s1.bh) _ yl_range⟩
    · exact p2.elim
  | none => exact p2.elim
  | bool b => exact p2.elim
  | str b => exact p2.elim
  | tuple b => exact p2.elim
  | list b => exact p2.elim
  | dict b => exact p2.elim
theorem di_r2 {tg e e2 : Expr} {f g : Env → R Da} {p pos : Pos} (hm : X.mg "range" = none) (ha : DE cls X W e f) (hb : DE cls X W e2 g) (hg : Gl X "range" := by rfl)
    (hs : starEach [e, e2] X.env = [(false, eval e X.env), (false, eval e2 X.env)] := by rfl) (hs2 : starEach [e2] X.env = [(false, eval e2 X.env)] := by rfl) : DI cls X W tg (.Call (.Name "range" p) [e, e2] [] pos) (iR2 f g) := by
  obtain ⟨ta, pa, ha⟩ := ha.run
  obtain ⟨tb, pb, hb⟩ := hb.run
  refine ⟨_, pi_range2 hg hm (pa_cons pa (pa_cons pb pa_nil (by rw [hs2]; rfl)) (by rw [hs, hs2])) hs hs2, fun F B H σ r Q k p => ?_⟩
  refine ha F B H σ r _ k (p.bind.imp fun d1 B1 H1 s1 p1 v hv => hb F B1 H1 σ r _ (k.stp s1) (p1.bind.imp fun d2 B2 H2 s2 p2 w hw => ?_))
  cases d1 with
  | int a =>
    cases d2 with
    | int b =>
      cases hv
      cases hw
      have p2 : Pw cls B2 H2 σ W (WfI X.K Q) (if (-1000000 ≤ a ∧ a ≤ 1000000 ∧ -1000000 ≤ b ∧ b ≤ 1000000) then .ok ((List.range (b - a).toNat).map fun i => PyData.int (a + (i : Nat))) else .no) := p2
      split at p2
      · rename_i hb
        exact ⟨a, b, rfl, ⟨by omega, by omega, by omega, by omega⟩, p2 B2 H2 (Stp.refl s2.bh) _ yl_range⟩
      · exact p2.elim
    | none => exact p2.elim
    | bool b => exact p2.elim
    | str b => exact p2.elim
    | tuple b => exact p2.elim
    | list b => exact p2.elim
    | dict b => exact p2.elim
  | none => exact p2.elim
  | bool b => exact p2.elim
  | str b => exact p2.elim
  | tuple b => exact p2.elim
  | list b => exact p2.elim
  | dict b => exact p2.elim
end
end Mi

/-! Mi7: operators and comparisons by data. -/
namespace Mi
open PySem PySem.Spec PyProof.Rows L2

section
variable {X : Cx}
/-- an operator by data, from what it does to the values -/
theorem opD {fm : Value → Value → Sem Value} {g : Da → Da → R Da} (h : ∀ (pins : List (Addr × Obj)) (s : Shared) (σ : L2.St) (B H : Hp) (x y : V) (v u : Value) (dx dy d : Da) (Q : VK), Inv X pins σ H s → RelV x v → RelV y u → Le B H → Rr X.K B H x dx → Rr X.K B H y dy → g dx dy = .ok d →
    (∀ B' H' v, Stp B H B' H' → Rep X.K B' v d → Q v H') → wpAny (model X.prog X.w) X.A (fm v u) (EP X pins σ Q) X.xe s) : OpR X fm (rD X.K g) := by
  intro pins s σ H x y v u Q I rx ry ⟨B, dx, dy, d, b, hx, hy, e, q⟩
  exact h pins s σ B H x y v u dx dy d Q I rx ry b hx hy e q

/-! ### numbers -/
def dInt (g : Int → Int → R Da) : Da → Da → R Da
  | .int i, .int j => g i j
  | _, _ => .no
theorem op_int {fm : Value → Value → Sem Value} {C : Int → Int → Prop} {gv : Int → Int → V} {g : Int → Int → R Da} (h : OpR X fm (rI C gv)) (hg : ∀ i j d, g i j = .ok d → C i j ∧ ∀ B, Rep X.K B (gv i j) d) : OpR X fm (rD X.K (dInt g)) :=
  opD fun pins s σ B H x y v u dx dy d Q I rx ry b hx hy e q => by
    cases dx with
    | int i =>
      cases dy with
      | int j =>
        obtain ⟨c, hr⟩ := hg i j d e
        exact h pins s σ H x y v u Q I rx ry ⟨i, j, hx.int, hy.int, c, q B H _ (Stp.refl b) (hr B)⟩
      | none => cases e
      | bool _ => cases e
      | str _ => cases e
      | tuple _ => cases e
      | list _ => cases e
      | dict _ => cases e
    | none => cases e
    | bool _ => cases e
    | str _ => cases e
    | tuple _ => cases e
    | list _ => cases e
    | dict _ => cases e
theorem op_int0 {fm : Value → Value → Sem Value} {gv : Int → Int → V} {g : Int → Int → R Da} (h : OpR X fm (rI0 gv)) (hg : ∀ i j d, g i j = .ok d → ∀ B, Rep X.K B (gv i j) d) : OpR X fm (rD X.K (dInt g)) :=
  op_int (C := fun _ _ => True) (fun pins s σ H x y v u Q I rx ry ⟨i, j, a, b, _, q⟩ => h pins s σ H x y v u Q I rx ry ⟨i, j, a, b, q⟩) fun i j d e => ⟨trivial, hg i j d e⟩
def dSub : Da → Da → R Da := dInt fun i j => .ok (.int (i - j))
def dFdiv : Da → Da → R Da := dInt fun i j => if 0 < j ∧ j < 1073741824 then .ok (.int (i / j)) else .no
def dMod : Da → Da → R Da := dInt fun i j => if 0 < j then .ok (.int (i % j)) else .no
def dPow : Da → Da → R Da := dInt fun i j => if 0 ≤ j ∧ j ≤ 1000000 ∧ i.natAbs < 2 ^ 64 then .ok (.int (i ^ j.toNat)) else .no
def dMulI : Da → Da → R Da := dInt fun i j => if (-(2 ^ 64) < i ∧ i < 2 ^ 64) ∨ (-(2 ^ 64) < j ∧ j < 2 ^ 64) then .ok (.int (i * j)) else .no
def dXor : Da → Da → R Da := dInt fun i j => .ok (.int (Builtin.bitXor i j))
theorem o_sub : OpR X (binaryOp .Sub) (rD X.K dSub) := op_int0 op_sub fun i j d e B => by
  cases e
  exact .int _
theorem o_fdiv : OpR X (binaryOp .FloorDiv) (rD X.K dFdiv) := op_int op_fdiv fun i j d e => by
  by_cases c : 0 < j ∧ j < 1073741824
  · rw [if_pos c] at e
    cases e
    exact ⟨c, fun B => .int _⟩
  · rw [if_neg c] at e
    cases e
theorem o_mod : OpR X (binaryOp .Mod) (rD X.K dMod) := op_int op_mod fun i j d e => by
  by_cases c : 0 < j
  · rw [if_pos c] at e
    cases e
    exact ⟨c, fun B => .int _⟩
  · rw [if_neg c] at e
    cases e
theorem o_pow : OpR X (binaryOp .Pow) (rD X.K dPow) := op_int op_pow fun i j d e => by
  by_cases c : 0 ≤ j ∧ j ≤ 1000000 ∧ i.natAbs < 2 ^ 64
  · rw [if_pos c] at e
    cases e
    exact ⟨c, fun B => .int _⟩
  · rw [if_neg c] at e
    cases e
theorem o_mulI : OpR X (binaryOp .Mult) (rD X.K dMulI) := op_int op_mul fun i j d e => by
  by_cases c : (-(2 ^ 64) < i ∧ i < 2 ^ 64) ∨ (-(2 ^ 64) < j ∧ j < 2 ^ 64)
  · rw [if_pos c] at e
    cases e
    exact ⟨c, fun B => .int _⟩
  · rw [if_neg c] at e
    cases e
theorem o_xor : OpR X (binaryOp .BitXor) (rD X.K dXor) := op_int0 op_xor fun i j d e B => by
  cases e
  exact .int _

/-! ### + -/
def dAdd : Da → Da → R Da
  | .int i, .int j => .ok (.int (i + j))
  | .str x, .str y => if x.length + y.length ≤ 100000 then .ok (.str (x ++ y)) else .no
  | .list xs, .list ys => if xs.length + ys.length ≤ 100000 then .ok (.list (xs ++ ys)) else .no
  | .tuple xs, .tuple ys => if xs.length + ys.length ≤ 100000 then .ok (.tuple (xs ++ ys)) else .no
  | _, _ => .no
/-- list + list, whatever lists -/
theorem catL {pins : List (Addr × Obj)} {s : Shared} {σ : L2.St} {H : Hp} {a b : Addr} {xs zs : List V} {Q : VK} (I : Inv X pins σ H s) (ha : SqL X.K H a xs) (hb : SqL X.K H b zs) (hz : xs.length + zs.length ≤ sizeLine) (q : ∀ p, H p = none → Q (.ref p) (upd H p (.lst (xs ++ zs)))) :
    wpAny (model X.prog X.w) X.A (binaryOp .Add (.ref a) (.ref b)) (EP X pins σ Q) X.xe s := by
  obtain ⟨its, r1, ⟨⟨c1, d1, t1, s1⟩, n1, e1, hc1, hd1, ht1⟩, _⟩ := I.list ha
  obtain ⟨its2, r2, ⟨⟨c2, d2, t2, s2⟩, n2, e2, hc2, hd2, ht2⟩, _⟩ := I.list hb
  simp only at hc1 ht1 hc2 ht2
  subst hc1 ht1 hc2 ht2
  have l1 := r1.length
  have l2 := r2.length
  refine concat_meets ⟨_, e1, rfl⟩ ⟨_, e2, rfl⟩ noFill_list_add seq_list_add PySem.F.slot_list_add PySem.F.entry_list_add (PySem.F.args_list_add_2 _ _) (list_addW a b its.toArray its2.toArray n1 n2 d1 d2 s1 s2 (by rw [List.size_toArray, List.size_toArray]; omega)) ⟨e1, e2, ?_⟩
  have ea : its.toArray ++ its2.toArray = (its ++ its2).toArray := by simp
  rw [ea]
  exact ⟨.ref _, _, I.lnew (t' := s.toks) (r1.append r2) (by rw [List.length_append]; omega), rfl, q _ I.fresh⟩
theorem tup_eq {K : PySem.W.Frag} {B : Hp} {xs : List V} {ds : List Da} {es : List Da} (h : RepAll K B xs ds) (e : xs = []) : ds ++ es = es := by
  subst e
  cases h
  rfl
theorem o_add : OpR X (binaryOp .Add) (rD X.K dAdd) :=
  opD fun pins s σ B H x y v u dx dy d Q I rx ry b hx hy e q => by
    cases dx with
    | int i =>
      cases dy with
      | int j =>
        cases e
        exact op_add pins s σ H x y v u Q I rx ry ⟨i, j, hx.int, hy.int, q B H _ (Stp.refl b) (.int _)⟩
      | none => cases e
      | bool _ => cases e
      | str _ => cases e
      | tuple _ => cases e
      | list _ => cases e
      | dict _ => cases e
    | str i =>
      cases dy with
      | str j =>
        have e : (if i.length + j.length ≤ 100000 then R.ok (PyData.str (i ++ j)) else .no) = .ok d := e
        by_cases c : i.length + j.length ≤ 100000
        · rw [if_pos c] at e
          cases e
          exact op_add_str pins s σ H x y v u Q I rx ry ⟨i, j, hx.str, hy.str, sz c, q B H _ (Stp.refl b) (.str _)⟩
        · rw [if_neg c] at e
          cases e
      | none => cases e
      | bool _ => cases e
      | int _ => cases e
      | tuple _ => cases e
      | list _ => cases e
      | dict _ => cases e
    | list i =>
      cases dy with
      | list j =>
        have e : (if i.length + j.length ≤ 100000 then R.ok (PyData.list (i ++ j)) else .no) = .ok d := e
        by_cases c : i.length + j.length ≤ 100000
        · rw [if_pos c] at e
          cases e
          obtain ⟨pa, xs, rfl, h1, h2⟩ := hx.list b
          obtain ⟨pb, ys, rfl, h3, h4⟩ := hy.list b
          cases rx
          cases ry
          have l1 := h2.length
          have l2 := h4.length
          exact catL I h1 h3 (sz (by omega)) fun p np => q _ _ _ (Stp.new b np) (.lst (.inl (.inl upd_same)) ((h2.append h4).mono (Le.new (b.back np))))
        · rw [if_neg c] at e
          cases e
      | none => cases e
      | bool _ => cases e
      | int _ => cases e
      | tuple _ => cases e
      | str _ => cases e
      | dict _ => cases e
    | tuple i =>
      cases dy with
      | tuple j =>
        have e : (if i.length + j.length ≤ 100000 then R.ok (PyData.tuple (i ++ j)) else .no) = .ok d := e
        by_cases c : i.length + j.length ≤ 100000
        · rw [if_pos c] at e
          cases e
          obtain ⟨pa, xs, rfl, h1, h1', h2⟩ := hx.tuple b
          obtain ⟨pb, ys, rfl, h3, h3', h4⟩ := hy.tuple b
          have l1 := h2.length
          have l2 := h4.length
          refine op_catA pins s σ H _ _ v u Q I rx ry ⟨pa, pb, xs, ys, rfl, rfl, h1, h3, sz (by omega), fun ex => ?_, fun _ ey => ?_, fun _ _ p np => ?_⟩
          · exact q B H _ (Stp.refl b) (by rw [tup_eq h2 ex]; exact .tup h3' h4)
          · refine q B H _ (Stp.refl b) ?_
            subst ey
            cases h4
            rw [List.append_nil]
            exact .tup h1' h2
          · exact q _ _ _ (Stp.new b np) (.tup (.inl (.inl upd_same)) ((h2.append h4).mono (Le.new (b.back np))))
        · rw [if_neg c] at e
          cases e
      | none => cases e
      | bool _ => cases e
      | int _ => cases e
      | list _ => cases e
      | str _ => cases e
      | dict _ => cases e
    | none => cases e
    | bool _ => cases e
    | dict _ => cases e

/-! ### == -/
def shD : Nat → Da → Bool
  | _, .none => true
  | _, .bool _ => true
  | _, .int _ => true
  | _, .str x => PyData.canLay0 (.str x)
  | 0, .list _ => false
  | 0, .tuple _ => false
  | n + 1, .list xs => xs.all (shD n)
  | n + 1, .tuple xs => xs.all (shD n)
  | _, .dict _ => false
theorem shD_all : ∀ (n : Nat) (d : Da), shD n d = true → d.canLay0 = true ∧ d.depth ≤ n
  | n, .none, _ => ⟨by simp [PyData.canLay0], by simp [PyData.depth]⟩
  | n, .bool _, _ => ⟨by simp [PyData.canLay0], by simp [PyData.depth]⟩
  | n, .int _, _ => ⟨by simp [PyData.canLay0], by simp [PyData.depth]⟩
  | n, .str x, h => ⟨by cases n <;> exact h, by simp [PyData.depth]⟩
  | 0, .list _, h => by cases h
  | 0, .tuple _, h => by cases h
  | n + 1, .list xs, h => by
    have h : xs.all (shD n) = true := h
    have z : PyData.canLayAll0 xs = true ∧ PyData.depthAll xs ≤ n := by
      induction xs with
      | nil => exact ⟨by simp [PyData.canLayAll0], by simp [PyData.depthAll]⟩
      | cons x xs ih =>
        rw [List.all_cons, Bool.and_eq_true] at h
        obtain ⟨a, b⟩ := shD_all n x h.1
        obtain ⟨c, d⟩ := ih h.2 h.2
        refine ⟨by simp [PyData.canLayAll0, a, c], ?_⟩
        simp only [PyData.depthAll]
        omega
    exact ⟨by simp [PyData.canLay0, z.1], by simp only [PyData.depth]; omega⟩
  | n + 1, .tuple xs, h => by
    have h : xs.all (shD n) = true := h
    have z : PyData.canLayAll0 xs = true ∧ PyData.depthAll xs ≤ n := by
      induction xs with
      | nil => exact ⟨by simp [PyData.canLayAll0], by simp [PyData.depthAll]⟩
      | cons x xs ih =>
        rw [List.all_cons, Bool.and_eq_true] at h
        obtain ⟨a, b⟩ := shD_all n x h.1
        obtain ⟨c, d⟩ := ih h.2 h.2
        refine ⟨by simp [PyData.canLayAll0, a, c], ?_⟩
        simp only [PyData.depthAll]
        omega
    exact ⟨by simp [PyData.canLay0, z.1], by simp only [PyData.depth]; omega⟩
  | 0, .dict _, h => by cases h
  | n + 1, .dict _, h => by cases h
theorem shaped_of {d : Da} (h : shD 8 d = true) : SeqAt.shaped d = true := by
  obtain ⟨a, b⟩ := shD_all 8 d h
  show (d.canLay0 && decide (d.depth ≤ 64)) = true
  rw [a, decide_eq_true (by omega : d.depth ≤ 64)]
  rfl
mutual
theorem Rep.dp {K : PySem.W.Frag} {H : Hp} : ∀ {v : V} {d : Da}, Rep K H v d → d.canLay0 = true → Dp K H v d
  | _, _, .non, _ => .non
  | _, _, .bl b, _ => .bl b
  | _, _, .int i, _ => .int i
  | _, _, .str x, _ => .str x
  | _, _, .lst h r, c => .lst h (RepAll.dp r (by simpa [PyData.canLay0] using c))
  | _, _, .tup h r, c => .tup h (RepAll.dp r (by simpa [PyData.canLay0] using c))
  | _, _, .dct h r, c => by simp [PyData.canLay0] at c
theorem RepAll.dp {K : PySem.W.Frag} {H : Hp} : ∀ {vs : List V} {ds : List Da}, RepAll K H vs ds → PyData.canLayAll0 ds = true → DpAll K H vs ds
  | _, _, .nil, _ => .nil
  | _, _, .cons h r, c => by
    simp only [PyData.canLayAll0, Bool.and_eq_true] at c
    exact .cons (Rep.dp h c.1) (RepAll.dp r c.2)
end
theorem Rr.dp {K : PySem.W.Frag} {B H : Hp} {v : V} {d : Da} (b : Le B H) (h : Rr K B H v d) (c : d.canLay0 = true) : Dp K H v d := by
  rcases h with h | ⟨p, xs, ds, rfl, rfl, h1, h2⟩ | ⟨p, xs, ds, rfl, rfl, h1, h2⟩
  · exact (h.mono b).dp c
  · exact .lst (.inl (.inl h1)) ((h2.mono b).dp (by simpa [PyData.canLay0] using c))
  · simp [PyData.canLay0] at c
/-- two that may be compared at once -/
def eqOk : Da → Da → Bool
  | .str _, .str _ => true
  | .int _, .int _ => true
  | .bool _, .bool _ => true
  | x, y => shD 8 x && shD 8 y
def dEq (x y : Da) : R Da := if eqOk x y then .ok (.bool (PyData.eqv x y)) else .no
def dNe (x y : Da) : R Da := if eqOk x y then .ok (.bool (!PyData.eqv x y)) else .no
theorem eq_run {pins : List (Addr × Obj)} {s : Shared} {σ : L2.St} {B H : Hp} {x y : V} {v u : Value} {dx dy : Da} {Q : VK} {k : Nat} (hr : Room k X.A) (I : Inv X pins σ H s) (rx : RelV x v) (ry : RelV y u) (b : Le B H) (hx : Rr X.K B H x dx) (hy : Rr X.K B H y dy) (c : eqOk dx dy = true)
    (q : Q (.bl (PyData.eqv dx dy)) H) : wpAny (model X.prog X.w) X.A (compareOp .Eq v u) (EP X pins σ Q) X.xe s := by
  have gen : shD 8 dx && shD 8 dy → wpAny (model X.prog X.w) X.A (compareOp .Eq v u) (EP X pins σ Q) X.xe s := fun c => by
    rw [Bool.and_eq_true] at c
    exact op_eqD hr.units pins s σ H x y v u Q I rx ry ⟨dx, dy, hx.dp b (shD_all 8 _ c.1).1, hy.dp b (shD_all 8 _ c.2).1, shaped_of c.1, shaped_of c.2, q⟩
  cases dx with
  | str i =>
    cases dy with
    | str j =>
      refine op_eq pins s σ H x y v u Q I rx ry ⟨by rw [hx.str, hy.str]; rfl, ?_⟩
      rw [hx.str, hy.str, dec_str]
      exact q
    | _ => exact gen c
  | int i =>
    cases dy with
    | int j =>
      refine op_eq pins s σ H x y v u Q I rx ry ⟨by rw [hx.int, hy.int]; rfl, ?_⟩
      rw [hx.int, hy.int, dec_int]
      exact q
    | _ => exact gen c
  | bool i =>
    cases dy with
    | bool j =>
      refine op_eq pins s σ H x y v u Q I rx ry ⟨by rw [hx.bool, hy.bool]; rfl, ?_⟩
      rw [hx.bool, hy.bool, dec_bl]
      exact q
    | _ => exact gen c
  | none => exact gen c
  | tuple i => exact gen c
  | list i => exact gen c
  | dict i => exact gen c
theorem ne_run {pins : List (Addr × Obj)} {s : Shared} {σ : L2.St} {B H : Hp} {x y : V} {v u : Value} {dx dy : Da} {Q : VK} {k : Nat} (hr : Room k X.A) (I : Inv X pins σ H s) (rx : RelV x v) (ry : RelV y u) (b : Le B H) (hx : Rr X.K B H x dx) (hy : Rr X.K B H y dy) (c : eqOk dx dy = true)
    (q : Q (.bl (!PyData.eqv dx dy)) H) : wpAny (model X.prog X.w) X.A (compareOp .NotEq v u) (EP X pins σ Q) X.xe s := by
  have gen : shD 8 dx && shD 8 dy → wpAny (model X.prog X.w) X.A (compareOp .NotEq v u) (EP X pins σ Q) X.xe s := fun c => by
    rw [Bool.and_eq_true] at c
    exact op_neD hr.units pins s σ H x y v u Q I rx ry ⟨dx, dy, hx.dp b (shD_all 8 _ c.1).1, hy.dp b (shD_all 8 _ c.2).1, shaped_of c.1, shaped_of c.2, q⟩
  cases dx with
  | str i =>
    cases dy with
    | str j =>
      refine op_ne pins s σ H x y v u Q I rx ry ⟨by rw [hx.str, hy.str]; rfl, ?_⟩
      rw [hx.str, hy.str, dec_str]
      exact q
    | _ => exact gen c
  | int i =>
    cases dy with
    | int j =>
      refine op_ne pins s σ H x y v u Q I rx ry ⟨by rw [hx.int, hy.int]; rfl, ?_⟩
      rw [hx.int, hy.int, dec_int]
      exact q
    | _ => exact gen c
  | bool i =>
    cases dy with
    | bool j =>
      refine op_ne pins s σ H x y v u Q I rx ry ⟨by rw [hx.bool, hy.bool]; rfl, ?_⟩
      rw [hx.bool, hy.bool, dec_bl]
      exact q
    | _ => exact gen c
  | none => exact gen c
  | tuple i => exact gen c
  | list i => exact gen c
  | dict i => exact gen c
theorem o_eq {k : Nat} (hr : Room k X.A) : OpR X (compareOp .Eq) (rD X.K dEq) :=
  opD fun pins s σ B H x y v u dx dy d Q I rx ry b hx hy e q => by
    unfold dEq at e
    by_cases c : eqOk dx dy = true
    · rw [if_pos c] at e
      cases e
      exact eq_run hr I rx ry b hx hy c (q B H _ (Stp.refl b) (.bl _))
    · rw [if_neg c] at e
      cases e
theorem o_ne {k : Nat} (hr : Room k X.A) : OpR X (compareOp .NotEq) (rD X.K dNe) :=
  opD fun pins s σ B H x y v u dx dy d Q I rx ry b hx hy e q => by
    unfold dNe at e
    by_cases c : eqOk dx dy = true
    · rw [if_pos c] at e
      cases e
      exact ne_run hr I rx ry b hx hy c (q B H _ (Stp.refl b) (.bl _))
    · rw [if_neg c] at e
      cases e
/-- is None, is not None -/
def dIsN : Da → Da → R Da
  | .none, .none => .ok (.bool true)
  | .list _, .none => .ok (.bool false)
  | .tuple _, .none => .ok (.bool false)
  | .dict _, .none => .ok (.bool false)
  | .int _, .none => .ok (.bool false)
  | .str _, .none => .ok (.bool false)
  | .bool _, .none => .ok (.bool false)
  | _, _ => .no
def isNn : Da → Bool
  | .none => true
  | _ => false
def dIs (x y : Da) : R Da := if isNn y then .ok (.bool (isNn x)) else .no
def dIsNot (x y : Da) : R Da := if isNn y then .ok (.bool (!isNn x)) else .no
theorem isNn_v {K : PySem.W.Frag} {B H : Hp} {v : V} {d : Da} (h : Rr K B H v d) : decide (v = .non) = isNn d := by
  rcases h with h | ⟨p, xs, ds, rfl, rfl, h1, h2⟩ | ⟨p, xs, ds, rfl, rfl, h1, h2⟩
  · cases h <;> rfl
  · rfl
  · rfl
theorem o_is : OpR X (compareOp .Is) (rD X.K dIs) :=
  opD fun pins s σ B H x y v u dx dy d Q I rx ry b hx hy e q => by
    unfold dIs at e
    cases c : isNn dy with
    | true =>
      rw [c] at e
      cases e
      have ey : y = .non := of_decide_eq_true ((isNn_v hy).trans c)
      refine op_isN pins s σ H x y v u Q I rx ry ⟨ey, ?_⟩
      rw [isNn_v hx]
      exact q B H _ (Stp.refl b) (.bl _)
    | false =>
      rw [c] at e
      cases e
theorem o_isnot : OpR X (compareOp .IsNot) (rD X.K dIsNot) :=
  opD fun pins s σ B H x y v u dx dy d Q I rx ry b hx hy e q => by
    unfold dIsNot at e
    cases c : isNn dy with
    | true =>
      rw [c] at e
      cases e
      have ey : y = .non := of_decide_eq_true ((isNn_v hy).trans c)
      refine op_notN pins s σ H x y v u Q I rx ry ⟨ey, ?_⟩
      rw [isNn_v hx]
      exact q B H _ (Stp.refl b) (.bl _)
    | false =>
      rw [c] at e
      cases e
end
end Mi

/-! Mi8: built-in calls by data. -/
namespace Mi
open PySem PySem.Spec PyProof.Rows L2

/-- a call upon values that are read now, by data -/
def rDc (K : PySem.W.Frag) (g : List Da → R Da) : List V → Hp → VK → Prop := fun vs H Q => ∃ B ds d, Le B H ∧ RrAll K B H vs ds ∧ g ds = .ok d ∧ ∀ B' H' v, Stp B H B' H' → Rep K B' v d → Q v H'
def rFc (K : PySem.W.Frag) (g : List Da → R Da) : List V → Hp → VK → Prop := fun vs H Q => ∃ B ds d, Le B H ∧ RrAll K B H vs ds ∧ g ds = .ok d ∧ ∀ B' H' p, Stp B H B' H' → H p = none → B' p = none → OwnD K B' H' p d → Q (.ref p) H'
def eBl (g : List Da → R Da) (fs : Env → R (List Da)) : Env → R Da := fun r => (fs r).bind fun ds => (g ds).calm
section
variable {cls : String → Value} {X : Cx} {W : WX}
theorem de_bltB {x : Str} {id : String} {g : List Da → R Da} {e : Expr} {es : List Expr} {fs : Env → R (List Da)} {p pos : Pos} (hc : CallR X (.builtin id) (rDc X.K g)) (hm : X.mg x = none) (hv : bootBuiltins x = some (.builtin id)) (ha : DB cls X W (e :: es) fs) (hg : Gl X x := by rfl)
    (hn : x ≠ "__name__" := by decide) (hdb : (x == ("__debug__" : Str)) = false := by decide) (he : starEach (e :: es) X.env = (false, eval e X.env) :: starEach es X.env := by rfl) (hpl : (backTo pos (starEach es X.env)).any (·.1) = false := by rfl) : DE cls X W (.Call (.Name x p) (e :: es) [] pos) (eBl g fs) := by
  obtain ⟨t, pt, h⟩ := ha.run
  refine ⟨_, pe_callB hc hg hm hv pt hn hdb he hpl, fun F B H σ r Q k p => h F B H σ r _ k (p.bind.imp fun ds B1 H1 s1 p1 vs hvs => ?_)⟩
  obtain ⟨d, e, h'⟩ := p1.calm
  exact ⟨B1, ds, d, s1.bh, hvs, e, fun B' H' v s hv => h' B' H' s v hv⟩
theorem de_bltT {x : Str} {T : String} {g : List Da → R Da} {e : Expr} {es : List Expr} {fs : Env → R (List Da)} {p pos : Pos} (hc : CallR X (.type T) (rDc X.K g)) (hm : X.mg x = none) (hv : bootBuiltins x = some (.type T)) (ha : DB cls X W (e :: es) fs) (hg : Gl X x := by rfl)
    (hn : x ≠ "__name__" := by decide) (hdb : (x == ("__debug__" : Str)) = false := by decide) (he : starEach (e :: es) X.env = (false, eval e X.env) :: starEach es X.env := by rfl) (hpl : (backTo pos (starEach es X.env)).any (·.1) = false := by rfl) : DE cls X W (.Call (.Name x p) (e :: es) [] pos) (eBl g fs) := by
  obtain ⟨t, pt, h⟩ := ha.run
  refine ⟨_, pe_callTy hc hg hm hv pt hn hdb he hpl, fun F B H σ r Q k p => h F B H σ r _ k (p.bind.imp fun ds B1 H1 s1 p1 vs hvs => ?_)⟩
  obtain ⟨d, e, h'⟩ := p1.calm
  exact ⟨B1, ds, d, s1.bh, hvs, e, fun B' H' v s hv => h' B' H' s v hv⟩
theorem df_bltT {x : Str} {T : String} {g : List Da → R Da} {e : Expr} {es : List Expr} {fs : Env → R (List Da)} {p pos : Pos} (hc : CallR X (.type T) (rFc X.K g)) (hm : X.mg x = none) (hv : bootBuiltins x = some (.type T)) (ha : DB cls X W (e :: es) fs) (hg : Gl X x := by rfl)
    (hn : x ≠ "__name__" := by decide) (hdb : (x == ("__debug__" : Str)) = false := by decide) (he : starEach (e :: es) X.env = (false, eval e X.env) :: starEach es X.env := by rfl) (hpl : (backTo pos (starEach es X.env)).any (·.1) = false := by rfl) : DF cls X W (.Call (.Name x p) (e :: es) [] pos) (eBl g fs) := by
  obtain ⟨t, pt, h⟩ := ha.run
  refine ⟨_, pe_callTy hc hg hm hv pt hn hdb he hpl, fun F B H σ r Q k p => h F B H σ r _ k (p.bind.imp fun ds B1 H1 s1 p1 vs hvs => ?_)⟩
  obtain ⟨d, e, h'⟩ := p1.calm
  exact ⟨B1, ds, d, s1.bh, hvs, e, fun B' H' v s n b o => h' B' H' s v (s1.hh.back n) b o⟩

/-! ### isinstance -/
def tyD : Da → String
  | .none => "NoneType"
  | .bool _ => "bool"
  | .int _ => "int"
  | .str _ => "str"
  | .list _ => "list"
  | .tuple _ => "tuple"
  | .dict _ => "dict"
theorem Rr.ty {K : PySem.W.Frag} {B H : Hp} {v : V} {d : Da} (b : Le B H) (h : Rr K B H v d) : TyX K H v (.type (tyD d)) := by
  have lst : ∀ {p : Addr} {xs : List V}, SqL K H p xs → TyX K H (.ref p) (.type "list") := fun {p xs} h => by
    rcases h with (h | ⟨o, h⟩) | ⟨o, its, n, e, c, _⟩
    · exact .base (.lst h)
    · exact .base (.frz h)
    · exact .kList e c
  have tup : ∀ {p : Addr} {xs : List V}, SqT K H p xs → TyX K H (.ref p) (.type "tuple") := fun {p xs} h => by
    rcases h with (h | ⟨o, h⟩) | ⟨o, its, n, e, c, _⟩
    · exact .base (.tup h)
    · exact .fTuple h
    · exact .kTuple e c
  rcases h with h | ⟨p, xs, ds, rfl, rfl, h1, h2⟩ | ⟨p, xs, ds, rfl, rfl, h1, h2⟩
  · cases h with
    | non => exact .base .non
    | bl x => exact .base (.bl x)
    | int x => exact .base (.int x)
    | str x => exact .base (.str x)
    | lst hs hr => exact lst (b.sl hs)
    | tup hs hr => exact tup (b.st hs)
    | dct hs hr => exact .fDict (b _ _ hs)
  · exact .base (.lst h1)
  · exact .base (.dK h1)
def tys : List String := ["NoneType", "bool", "int", "str", "list", "tuple", "dict"]
theorem tyD_mem (d : Da) : tyD d ∈ tys := by cases d <;> simp [tyD, tys]
def isTy (T t : String) : Bool := t == T || (t == "bool" && T == "int")
abbrev KnT (T : String) : Prop := ∀ t ∈ tys, kitB t T = some (isTy T t)
theorem kn_int : KnT "int" := by decide +kernel
theorem kn_bool : KnT "bool" := by decide +kernel
theorem kn_str : KnT "str" := by decide +kernel
theorem kn_list : KnT "list" := by decide +kernel
theorem kn_tuple : KnT "tuple" := by decide +kernel
def eIsi (T : String) (f : Env → R Da) : Env → R Da := fun r => (f r).bind fun d => .ok (.bool (isTy T (tyD d)))
theorem de_isi {T : String} {x : Str} {e : Expr} {f : Env → R Da} {p p2 pos : Pos} (hT : KnT T) (hm : X.mg "isinstance" = none) (hmT : X.mg x = none) (hv : bootBuiltins x = some (.type T)) (ha : DR cls X W e f) (hg : Gl X "isinstance" := by rfl) (hgT : Gl X x := by rfl)
    (hn : x ≠ "__name__" := by decide) (hdb : (x == ("__debug__" : Str)) = false := by decide) (hs : starEach [e, .Name x p2] X.env = (false, eval e X.env) :: starEach [.Name x p2] X.env := by rfl) (hs2 : starEach [.Name x p2] X.env = (false, eval (.Name x p2) X.env) :: starEach [] X.env := by rfl)
    (hpl : (backTo pos (starEach [.Name x p2] X.env)).any (·.1) = false := by rfl) : DE cls X W (.Call (.Name "isinstance" p) [e, .Name x p2] [] pos) (eIsi T f) := by
  obtain ⟨t, pt, h⟩ := ha.run
  refine ⟨_, pe_callB call_isi hg hm (by decide +kernel) (pa_cons pt (pa_cons (pe_bltn (v := .ty T) hgT hmT hv rfl hn hdb) pa_nil hs2) hs) (by decide) (by decide) hs hpl, fun F B H σ r Q k p => h F B H σ r _ k (p.bind.imp fun d B1 H1 s1 p1 v hv => ?_)⟩
  exact ⟨v, .ty T, .type (tyD d), .type T, isTy T (tyD d), rfl, .ty T, hv.ty s1.bh, kit_ty (hT _ (tyD_mem d)), p1 B1 H1 (Stp.refl s1.bh) _ (.bl _)⟩

/-! ### len -/
/-- of one argument -/
def d1 (g : Da → R Da) : List Da → R Da
  | [x] => g x
  | _ => .no
theorem call1 {f : Value} {g : Da → R Da} (h : ∀ (pins : List (Addr × Obj)) (s : Shared) (σ : L2.St) (B H : Hp) (x : V) (d0 d : Da) (us : List Value) (Q : VK), Inv X pins σ H s → Vals [x] us → Le B H → Rr X.K B H x d0 → g d0 = .ok d →
    (∀ B' H' v, Stp B H B' H' → Rep X.K B' v d → Q v H') → wpAny (model X.prog X.w) X.A (call f us) (EP X pins σ Q) X.xe s) : CallR X f (rDc X.K (d1 g)) := by
  intro pins s σ H xs us Q I r ⟨B, ds, d, b, hr, e, q⟩
  cases hr with
  | nil => cases e
  | cons h1 hr =>
    cases hr with
    | cons _ _ => cases e
    | nil => exact h pins s σ B H _ _ d us Q I r b h1 e q
theorem callF1 {f : Value} {g : Da → R Da} (h : ∀ (pins : List (Addr × Obj)) (s : Shared) (σ : L2.St) (B H : Hp) (x : V) (d0 d : Da) (us : List Value) (Q : VK), Inv X pins σ H s → Vals [x] us → Le B H → Rr X.K B H x d0 → g d0 = .ok d →
    (∀ B' H' p, Stp B H B' H' → H p = none → B' p = none → OwnD X.K B' H' p d → Q (.ref p) H') → wpAny (model X.prog X.w) X.A (call f us) (EP X pins σ Q) X.xe s) : CallR X f (rFc X.K (d1 g)) := by
  intro pins s σ H xs us Q I r ⟨B, ds, d, b, hr, e, q⟩
  cases hr with
  | nil => cases e
  | cons h1 hr =>
    cases hr with
    | cons _ _ => cases e
    | nil => exact h pins s σ B H _ _ d us Q I r b h1 e q
def lenD : Da → R Da
  | .list xs => .ok (.int (xs.length : Nat))
  | .tuple xs => .ok (.int (xs.length : Nat))
  | .str x => if x.length ≤ 100000 then .ok (.int (x.length : Nat)) else .no
  | _ => .no
theorem c_len : CallR X (.builtin "len") (rDc X.K (d1 lenD)) := call1 fun pins s σ B H x d0 d us Q I r b h1 e q => by
  cases d0 with
  | list ys =>
    cases e
    obtain ⟨p, zs, rfl, h2, h3⟩ := h1.list b
    refine call_len_seq pins s σ H _ us Q I r ⟨p, zs, rfl, .inl h2, ?_⟩
    rw [h3.length]
    exact q B H _ (Stp.refl b) (.int _)
  | tuple ys =>
    cases e
    obtain ⟨p, zs, rfl, h2, _, h3⟩ := h1.tuple b
    refine call_len_seq pins s σ H _ us Q I r ⟨p, zs, rfl, .inr h2, ?_⟩
    rw [h3.length]
    exact q B H _ (Stp.refl b) (.int _)
  | str x =>
    have e : (if x.length ≤ 100000 then R.ok (PyData.int (x.length : Nat)) else .no) = .ok d := e
    by_cases c : x.length ≤ 100000
    · rw [if_pos c] at e
      cases e
      exact call_len_str pins s σ H _ us Q I r ⟨x, by rw [h1.str], sz c, q B H _ (Stp.refl b) (.int _)⟩
    · rw [if_neg c] at e
      cases e
  | none => cases e
  | bool _ => cases e
  | int _ => cases e
  | dict _ => cases e

/-! ### a subscript -/
def atD (xs : List Da) (i : Int) : Option Da := (ixN xs.length i).bind fun j => xs[j]?
def dItem : Da → Da → R Da
  | .list xs, .int i => match atD xs i with | some d => .ok d | none => .no
  | .tuple xs, .int i => match atD xs i with | some d => .ok d | none => .no
  | .str x, .int i => if x.length ≤ 100000 then (match atI x.cps.toList i with | some c => .ok (.str ⟨#[c]⟩) | none => .no) else .no
  | _, _ => .no
theorem atD_rep {K : PySem.W.Frag} {B : Hp} {xs : List V} {ds : List Da} {i : Int} {d : Da} (h : RepAll K B xs ds) (e : atD ds i = some d) : ∃ v, atI xs i = some v ∧ Rep K B v d := by
  unfold atD at e
  unfold atI
  rw [h.length]
  cases q : ixN ds.length i with
  | none => rw [q] at e; cases e
  | some j =>
    rw [q] at e
    exact h.get e
theorem ix_ok : IxR X (rD X.K dItem) := by
  intro va sl pins s σ H x y v u Q I rx ry ⟨B, dx, dy, d, b, hx, hy, e, q⟩ hsb
  cases dx with
  | list ds =>
    cases dy with
    | int i =>
      have e : (match atD ds i with | some d => R.ok d | none => .no) = .ok d := e
      cases c : atD ds i with
      | none => rw [c] at e; cases e
      | some d' =>
        rw [c] at e
        cases e
        obtain ⟨p, xs, rfl, h1, h2⟩ := hx.list b
        obtain ⟨w, h3, h4⟩ := atD_rep h2 c
        exact ix_list va sl pins s σ H _ y v u Q I rx ry ⟨p, xs, i, w, rfl, hy.int, h1, h3, q B H _ (Stp.refl b) h4⟩ hsb
    | none => cases e
    | bool _ => cases e
    | str _ => cases e
    | tuple _ => cases e
    | list _ => cases e
    | dict _ => cases e
  | tuple ds =>
    cases dy with
    | int i =>
      have e : (match atD ds i with | some d => R.ok d | none => .no) = .ok d := e
      cases c : atD ds i with
      | none => rw [c] at e; cases e
      | some d' =>
        rw [c] at e
        cases e
        obtain ⟨p, xs, rfl, h1, _, h2⟩ := hx.tuple b
        obtain ⟨w, h3, h4⟩ := atD_rep h2 c
        exact ix_tup va sl pins s σ H _ y v u Q I rx ry ⟨p, xs, i, w, rfl, hy.int, h1, h3, q B H _ (Stp.refl b) h4⟩ hsb
    | none => cases e
    | bool _ => cases e
    | str _ => cases e
    | tuple _ => cases e
    | list _ => cases e
    | dict _ => cases e
  | str z =>
    cases dy with
    | int i =>
      have e : (if z.length ≤ 100000 then (match atI z.cps.toList i with | some c => R.ok (PyData.str ⟨#[c]⟩) | none => .no) else .no) = .ok d := e
      by_cases hz : z.length ≤ 100000
      · rw [if_pos hz] at e
        cases c : atI z.cps.toList i with
        | none => rw [c] at e; cases e
        | some d' =>
          rw [c] at e
          cases e
          exact ix_str va sl pins s σ H _ y v u Q I rx ry ⟨z, i, d', hx.str, hy.int, sz hz, c, q B H _ (Stp.refl b) (.str _)⟩ hsb
      · rw [if_neg hz] at e
        cases e
    | none => cases e
    | bool _ => cases e
    | str _ => cases e
    | tuple _ => cases e
    | list _ => cases e
    | dict _ => cases e
  | none => cases e
  | bool _ => cases e
  | int _ => cases e
  | dict _ => cases e
theorem de_item {a b : Expr} {fa fb : Env → R Da} {pos : Pos} (ha : DR cls X W a fa) (hb : DR cls X W b fb) (hs : PlainIx b := by exact fun _ _ => rfl) : DE cls X W (.Subscript a b pos) (eBin dItem fa fb) := by
  obtain ⟨ta, pa, ha⟩ := ha.run
  obtain ⟨tb, pb, hb⟩ := hb.run
  exact ⟨_, pe_ix ix_ok pa pb hs, fun F B H σ r Q k p => run2 ha hb k p⟩

/-! ### order -/
def lexLtI : List Int → List Int → Bool
  | [], [] => false
  | [], _ :: _ => true
  | _ :: _, [] => false
  | x :: xs, y :: ys => if x = y then lexLtI xs ys else decide (x < y)
def intsD : List Da → Option (List Int)
  | [] => some []
  | .int i :: ds => (intsD ds).map (i :: ·)
  | _ => none
theorem intsD_eq : ∀ {ds : List Da} {ns : List Int}, intsD ds = some ns → ds = ns.map PyData.int
  | [], ns, e => by cases e; rfl
  | .int i :: ds, ns, e => by
    have e : (intsD ds).map (i :: ·) = some ns := e
    cases q : intsD ds with
    | none => rw [q] at e; cases e
    | some ms =>
      rw [q] at e
      cases e
      rw [intsD_eq q]
      rfl
  | .none :: _, _, e => by cases e
  | .bool _ :: _, _, e => by cases e
  | .str _ :: _, _, e => by cases e
  | .list _ :: _, _, e => by cases e
  | .tuple _ :: _, _, e => by cases e
  | .dict _ :: _, _, e => by cases e
theorem lexAt_ge : ∀ (ns ms : List Int) (i : Nat), Ob.lexAt (fun j => decide (ns.getD (j - i) 0 = ms.getD (j - i) 0)) (fun j => decide (ms.getD (j - i) 0 ≤ ns.getD (j - i) 0)) (decide (ms.length ≤ ns.length)) i (min ns.length ms.length) = !lexLtI ns ms
  | [], [], i => rfl
  | [], m :: ms, i => by
    show Ob.lexAt _ _ _ i (min 0 _) = _
    rw [Nat.zero_min]
    rfl
  | n :: ns, [], i => by
    show Ob.lexAt _ _ _ i (min _ 0) = _
    rw [Nat.min_zero]
    rfl
  | n :: ns, m :: ms, i => by
    have hm : min (n :: ns).length (m :: ms).length = min ns.length ms.length + 1 := by
      rw [List.length_cons, List.length_cons]
      omega
    rw [hm, Ob.lexAt_succ]
    have e0 : i - i = 0 := Nat.sub_self i
    simp only [e0, List.getD_cons_zero, lexLtI]
    by_cases h : n = m
    · rw [if_pos (decide_eq_true h), if_pos h]
      have ih := lexAt_ge ns ms (i + 1)
      rw [← ih]
      have len : decide ((m :: ms).length ≤ (n :: ns).length) = decide (ms.length ≤ ns.length) := by
        rw [List.length_cons, List.length_cons]
        by_cases q : ms.length ≤ ns.length
        · rw [decide_eq_true q, decide_eq_true (by omega)]
        · rw [decide_eq_false q, decide_eq_false (by omega)]
      rw [len]
      have z : ∀ (e1 e2 r1 r2 : Nat → Bool) (c : Bool) (k j : Nat), (∀ l, j ≤ l → e1 l = e2 l ∧ r1 l = r2 l) → Ob.lexAt e1 r1 c j k = Ob.lexAt e2 r2 c j k := by
        intro e1 e2 r1 r2 c k
        induction k with
        | zero => intro j _; rfl
        | succ k ih =>
          intro j hl
          rw [Ob.lexAt_succ, Ob.lexAt_succ, (hl j (Nat.le_refl j)).1, (hl j (Nat.le_refl j)).2, ih (j + 1) fun l hle => hl l (by omega)]
      refine z _ _ _ _ _ _ _ fun l hl => ?_
      have q : l - i = (l - (i + 1)) + 1 := by omega
      rw [q]
      exact ⟨rfl, rfl⟩
    · have hd : ¬ (decide (n = m) = true) := by
        rw [decide_eq_true_iff]
        exact h
      rw [if_neg hd, if_neg h]
      by_cases q : m ≤ n
      · rw [decide_eq_true q, decide_eq_false (by omega)]
        rfl
      · rw [decide_eq_false q, decide_eq_true (by omega)]
        rfl
def dGe : Da → Da → R Da
  | .int i, .int j => .ok (.bool (decide (j ≤ i)))
  | .tuple xs, .tuple ys => match intsD xs, intsD ys with
    | some ns, some ms => .ok (.bool (!lexLtI ns ms))
    | _, _ => .no
  | _, _ => .no
theorem o_ge {k : Nat} (hr : Room k X.A) : OpR X (compareOp .GtE) (rD X.K dGe) :=
  opD fun pins s σ B H x y v u dx dy d Q I rx ry b hx hy e q => by
    cases dx with
    | int i =>
      cases dy with
      | int j =>
        cases e
        exact op_ge pins s σ H x y v u Q I rx ry ⟨i, j, hx.int, hy.int, q B H _ (Stp.refl b) (.bl _)⟩
      | none => cases e
      | bool _ => cases e
      | str _ => cases e
      | tuple _ => cases e
      | list _ => cases e
      | dict _ => cases e
    | tuple xs =>
      cases dy with
      | tuple ys =>
        have e : (match intsD xs, intsD ys with | some ns, some ms => R.ok (PyData.bool (!lexLtI ns ms)) | _, _ => .no) = .ok d := e
        cases c1 : intsD xs with
        | none => rw [c1] at e; cases e
        | some ns =>
          cases c2 : intsD ys with
          | none => rw [c1, c2] at e; cases e
          | some ms =>
            rw [c1, c2] at e
            cases e
            have q1 := intsD_eq c1
            have q2 := intsD_eq c2
            subst q1 q2
            obtain ⟨pa, vs, rfl, h1, _, h2⟩ := hx.tuple b
            obtain ⟨pb, ws, rfl, h3, _, h4⟩ := hy.tuple b
            have ev := h2.ints
            have ew := h4.ints
            subst ev ew
            cases rx
            cases ry
            obtain ⟨its, r1, p1, _⟩ := I.tuple h1
            obtain ⟨its2, r2, p2, _⟩ := I.tuple h3
            have i1 : IntsAre its ns := Vals.ints r1
            have i2 : IntsAre its2 ms := Vals.ints r2
            have e1 : its.toArray.size = ns.length := by rw [List.size_toArray]; exact i1.length
            have e2 : its2.toArray.size = ms.length := by rw [List.size_toArray]; exact i2.length
            have at1 : ∀ j (h1 : j < its.toArray.size), ∃ t, its.toArray[j] = .int (ns.getD j 0) t := fun j h1 => PyProof.Rows.IntsAre.int_at i1 _ _ (by simp at h1; simp [h1])
            have at2 : ∀ j (h1 : j < its2.toArray.size), ∃ t, its2.toArray[j] = .int (ms.getD j 0) t := fun j h1 => PyProof.Rows.IntsAre.int_at i2 _ _ (by simp at h1; simp [h1])
            have G := Ob.RcOp.tuples_ge (A := X.A) (s := s) (e := fun j => decide (ns.getD j 0 = ms.getD j 0)) (r := fun j => decide (ms.getD j 0 ≤ ns.getD j 0)) p1 p2 hr.units0 (fun j h1 h2 => by
              obtain ⟨t, et⟩ := at1 j h1
              obtain ⟨t', et'⟩ := at2 j h2
              rw [et, et']
              have z : (ns.getD j 0 == ms.getD j 0) = decide (ns.getD j 0 = ms.getD j 0) := by
                by_cases q : ns.getD j 0 = ms.getD j 0
                · rw [decide_eq_true q]; exact beq_iff_eq.mpr q
                · rw [decide_eq_false q]; exact beq_eq_false_iff_ne.mpr q
              rw [← z]
              exact SeqAt.EqAt.int_int _ _ _ _) (fun j h1 h2 _ => by
              obtain ⟨t, et⟩ := at1 j h1
              obtain ⟨t', et'⟩ := at2 j h2
              rw [et, et']
              exact Ob.RcOp.ge_int _ _ _ _)
            rw [e1, e2] at G
            have L := lexAt_ge ns ms 0
            simp only [Nat.sub_zero] at L
            have L2 := L
            refine G X.prog X.w X.xe (EP X pins σ Q) ⟨.bl _, H, I, rfl, ?_⟩
            first
              | (rw [L]; exact q B H _ (Stp.refl b) (.bl _))
              | (have z : ∀ c : Bool, c = !lexLtI ns ms → Q (.bl c) H := fun c hc => by rw [hc]; exact q B H _ (Stp.refl b) (.bl _)
                 exact z _ L)
      | none => cases e
      | bool _ => cases e
      | int _ => cases e
      | str _ => cases e
      | list _ => cases e
      | dict _ => cases e
    | none => cases e
    | bool _ => cases e
    | str _ => cases e
    | list _ => cases e
    | dict _ => cases e
def dLt : Da → Da → R Da
  | .int i, .int j => .ok (.bool (decide (i < j)))
  | .str x, .str y => .ok (.bool (decide (x.cps.toList < y.cps.toList)))
  | _, _ => .no
def dLe : Da → Da → R Da := dInt fun i j => .ok (.bool (decide (i ≤ j)))
def dGt : Da → Da → R Da := dInt fun i j => .ok (.bool (decide (j < i)))
theorem o_le : OpR X (compareOp .LtE) (rD X.K dLe) := op_int0 op_le fun i j d e B => by cases e; exact .bl _
theorem o_gt : OpR X (compareOp .Gt) (rD X.K dGt) := op_int0 op_gt fun i j d e B => by cases e; exact .bl _
theorem o_lt : OpR X (compareOp .Lt) (rD X.K dLt) :=
  opD fun pins s σ B H x y v u dx dy d Q I rx ry b hx hy e q => by
    cases dx with
    | int i =>
      cases dy with
      | int j =>
        cases e
        exact op_lt pins s σ H x y v u Q I rx ry ⟨i, j, hx.int, hy.int, q B H _ (Stp.refl b) (.bl _)⟩
      | none => cases e
      | bool _ => cases e
      | str _ => cases e
      | tuple _ => cases e
      | list _ => cases e
      | dict _ => cases e
    | str i =>
      cases dy with
      | str j =>
        cases e
        exact op_lt_str pins s σ H x y v u Q I rx ry ⟨i, j, hx.str, hy.str, q B H _ (Stp.refl b) (.bl _)⟩
      | none => cases e
      | bool _ => cases e
      | int _ => cases e
      | tuple _ => cases e
      | list _ => cases e
      | dict _ => cases e
    | none => cases e
    | bool _ => cases e
    | tuple _ => cases e
    | list _ => cases e
    | dict _ => cases e
end
end Mi

/-! Mi9: slices, conversions, texts, sorted, sets. -/
namespace Mi
open PySem PySem.Spec PyProof.Rows L2
section
variable {cls : String → Value} {X : Cx} {W : WX}

/-! ### slices -/
def cutD (xs : List Da) (lo hi : Option Int) : List Da := (xs.drop (HT.sIx xs.length 0 lo)).take (HT.sIx xs.length xs.length hi - HT.sIx xs.length 0 lo)
theorem cut_rep {K : PySem.W.Frag} {B : Hp} {xs : List V} {ds : List Da} (h : RepAll K B xs ds) (lo hi : Option Int) : RepAll K B (cutV xs lo hi) (cutD ds lo hi) := by
  unfold cutV cutD
  rw [h.length]
  exact (h.drop _).take _
def slD : Da → Option Int → Option Int → R Da
  | .list xs, lo, hi => .ok (.list (cutD xs lo hi))
  | .tuple xs, lo, hi => .ok (.tuple (cutD xs lo hi))
  | .str z, lo, hi => if z.length ≤ 100000 then .ok (.str (cutS z lo hi)) else .no
  | _, _, _ => .no
def rDs (K : PySem.W.Frag) (g : Da → Option Int → Option Int → R Da) : V → Option Int → Option Int → Hp → VK → Prop := fun x lo hi H Q => ∃ B dx d, Le B H ∧ Rr K B H x dx ∧ g dx lo hi = .ok d ∧ ∀ B' H' v, Stp B H B' H' → Rep K B' v d → Q v H'
theorem cut_whole {xs : List Da} {lo hi : Option Int} (h : HT.sIx xs.length 0 lo = 0 ∧ HT.sIx xs.length xs.length hi = xs.length) : cutD xs lo hi = xs := by
  unfold cutD
  rw [h.1, h.2, List.drop_zero, Nat.sub_zero, List.take_length]
theorem sl_ok : SlR X (rDs X.K slD) := by
  intro pins s σ H x v vl vu lo hi sl Q I rx hs pl pu ⟨B, dx, d, b, hx, e, q⟩
  cases dx with
  | list ds =>
    cases e
    obtain ⟨p, xs, rfl, h1, h2⟩ := hx.list b
    exact sl_list pins s σ H _ v vl vu lo hi sl Q I rx hs pl pu ⟨p, xs, rfl, h1, fun p np => q _ _ _ (Stp.new b np) (.lst (.inl (.inl upd_same)) ((cut_rep h2 lo hi).mono (Le.new (b.back np))))⟩
  | tuple ds =>
    cases e
    obtain ⟨p, xs, rfl, h1, h1', h2⟩ := hx.tuple b
    refine sl_tupA pins s σ H _ v vl vu lo hi sl Q I rx hs pl pu ⟨p, xs, rfl, h1, fun hw => ?_, fun _ p np => q _ _ _ (Stp.new b np) (.tup (.inl (.inl upd_same)) ((cut_rep h2 lo hi).mono (Le.new (b.back np))))⟩
    rw [h2.length] at hw
    refine q B H _ (Stp.refl b) ?_
    rw [cut_whole hw]
    exact .tup h1' h2
  | str z =>
    have e : (if z.length ≤ 100000 then R.ok (PyData.str (cutS z lo hi)) else .no) = .ok d := e
    by_cases c : z.length ≤ 100000
    · rw [if_pos c] at e
      cases e
      exact sl_str pins s σ H _ v vl vu lo hi sl Q I rx hs pl pu ⟨z, hx.str, sz c, q B H _ (Stp.refl b) (.str _)⟩
    · rw [if_neg c] at e
      cases e
  | none => cases e
  | bool _ => cases e
  | int _ => cases e
  | dict _ => cases e
structure DO (cls : String → Value) (X : Cx) (W : WX) (e : Option Expr) (f : Env → R (Option Int)) : Prop where
  run : ∃ t, PO X e t ∧ ∀ (F B H : Hp) (σ : L2.St) (r : Env) (Q : Option Int → Hp → Prop), Ok X.K F B H σ r → Pw cls B H σ W (fun o _ H' => Q o H') (f r) → t σ H Q
def oN : Env → R (Option Int) := fun _ => .ok none
def isI : Da → R Int
  | .int i => .ok i
  | _ => .no
def oS (f : Env → R Da) : Env → R (Option Int) := fun r => (f r).bind fun d => (isI d).bind fun i => .ok (some i)
theorem do_none : DO cls X W none oN := ⟨_, po_none, fun F B H σ r Q k p => p B H (Stp.refl k.bh)⟩
theorem do_some {e : Expr} {f : Env → R Da} (h : DE cls X W e f) : DO cls X W (some e) (oS f) := by
  obtain ⟨t, pt, h⟩ := h.run
  refine ⟨_, po_some pt, fun F B H σ r Q k p => h F B H σ r _ k (p.bind.imp fun d B' H' s q v hv => ?_)⟩
  cases d with
  | int i =>
    cases hv
    exact ⟨i, rfl, q B' H' (Stp.refl s.bh)⟩
  | none => exact q.elim
  | bool _ => exact q.elim
  | str _ => exact q.elim
  | list _ => exact q.elim
  | tuple _ => exact q.elim
  | dict _ => exact q.elim
def eSl (f : Env → R Da) (fl fh : Env → R (Option Int)) : Env → R Da := fun r => (f r).bind fun d => (fl r).bind fun l => (fh r).bind fun h => (slD d l h).calm
theorem de_slice {e : Expr} {lo hi : Option Expr} {f : Env → R Da} {fl fh : Env → R (Option Int)} {p2 pos : Pos} (he : DR cls X W e f) (hl : DO cls X W lo fl) (hh : DO cls X W hi fh) : DE cls X W (.Subscript e (.Slice lo hi none p2) pos) (eSl f fl fh) := by
  obtain ⟨t, pt, he⟩ := he.run
  obtain ⟨tl, pl, hl⟩ := hl.run
  obtain ⟨th, ph, hh⟩ := hh.run
  refine ⟨_, pe_slice sl_ok pt pl ph, fun F B H σ r Q k p => he F B H σ r _ k (p.bind.imp fun d B1 H1 s1 p1 v hv => hl F B1 H1 σ r _ (k.stp s1) (p1.bind.imp fun l B2 H2 s2 p2 => hh F B2 H2 σ r _ ((k.stp s1).stp s2) (p2.bind.imp fun h B3 H3 s3 p3 => ?_)))⟩
  obtain ⟨d', e', q⟩ := p3.calm
  exact ⟨B3, d, d', s3.bh, (hv.stp s2).stp s3, e', fun B' H' v s hv => q B' H' s v hv⟩

/-! ### x[::-1] of a list, of a tuple -/
theorem adjust_rev (n : Nat) : Builtin.Slice.sliceAdjust none none (-1) (n : Int) = ((n : Int) - 1, -1) := by
  unfold Builtin.Slice.sliceAdjust
  rfl
theorem places_rev (n : Nat) : Builtin.Slice.slicePlaces ((n : Int) - 1) (-1) (-1) = n := by
  unfold Builtin.Slice.slicePlaces
  have h1 : ¬ ((-1 : Int) > 0) := by decide
  rw [if_neg h1]
  by_cases h : (n : Int) - 1 > -1
  · rw [if_pos h, show (- -1 : Int) = 1 by decide, Int.ediv_one]
    omega
  · rw [if_neg h]
    omega
theorem sliceApplied_rev {prog : Program} {w : World} {A : Around} {E : Value → Shared → Prop} {s : Shared} {sl : Addr} {vl vu vs : Value} {n : Nat} {Q : Int × Int × Nat → Shared → Prop} (hs : s.heap.IsSliceOf sl vl vu vs) (pl : IsPart vl none) (pu : IsPart vu none) (ps : IsPart vs (some (-1)))
    (h : Q ((n : Int) - 1, -1, n) s) : wpAny (model prog w) A (Builtin.Slice.sliceApplied (.ref sl) (pure (n : Int))) Q E s := by
  obtain ⟨os, hos, hcs, hds⟩ := id hs
  unfold Builtin.Slice.sliceApplied Builtin.Slice.sliceFields
  refine wpAny_bind (wpAny_bind (wpAny_field hos hds (x := vl) rfl (wpAny_bind (wpAny_field hos hds (x := vu) rfl (wpAny_bind (wpAny_field hos hds (x := vs) rfl (wpAny_pure ?_)))))))
  refine wpAny_bind (HT.slicePart_ ps ?_)
  show wpAny _ _ (if ((-1 : Int) == 0) = true then _ else _) _ _ s
  rw [if_neg (by decide)]
  refine wpAny_bind (HT.slicePart_ pl (wpAny_bind (HT.slicePart_ pu (wpAny_bind (wpAny_pure ?_)))))
  show wpAny _ _ (match Builtin.Slice.sliceAdjust none none (-1) (n : Int) with | (lo, hi) => pure (lo, (-1 : Int), Builtin.Slice.slicePlaces lo hi (-1))) _ _ s
  rw [adjust_rev n]
  show wpAny _ _ (pure ((n : Int) - 1, (-1 : Int), Builtin.Slice.slicePlaces ((n : Int) - 1) (-1) (-1))) _ _ s
  rw [places_rev]
  exact wpAny_pure h
theorem fm_congr {α β : Type} {f g : α → Option β} : ∀ {l : List α}, (∀ a ∈ l, f a = g a) → l.filterMap f = l.filterMap g
  | [], _ => rfl
  | a :: l, h => by
    rw [List.filterMap_cons, List.filterMap_cons, h a List.mem_cons_self, fm_congr fun b hb => h b (List.mem_cons_of_mem _ hb)]
theorem pick_rev (xs : Array Value) : ((List.range xs.size).filterMap fun (m : Nat) => xs[(((xs.size : Int) - 1) + (m : Int) * -1).toNat]?).toArray = xs.toList.reverse.toArray := by
  have e : ∀ m ∈ List.range xs.size, xs[(((xs.size : Int) - 1) + (m : Int) * -1).toNat]? = xs.toList.reverse[m]? := by
    intro m hm
    have h := List.mem_range.mp hm
    rw [List.getElem?_reverse (by rw [Array.length_toList]; exact h), Array.length_toList, Array.getElem?_toList]
    have : (((xs.size : Int) - 1) + (m : Int) * -1).toNat = xs.size - 1 - m := by omega
    rw [this]
  rw [fm_congr e]
  have z : ∀ (l : List Value) (n : Nat), n = l.length → (List.range n).filterMap (fun m => l[m]?) = l := by
    intro l n hn
    subst hn
    refine List.ext_getElem? fun i => ?_
    have q := PySem.pick_run l.toArray 0 l.length
    rw [List.drop_zero, List.take_length] at q
    have q2 : (List.map (fun x => 0 + x) (List.range l.length)) = List.range l.length := by
      conv => rhs; rw [← List.map_id (List.range l.length)]
      refine List.map_congr_left fun a _ => ?_
      exact Nat.zero_add a
    rw [q2] at q
    have q3 : (List.range l.length).filterMap (fun m => l[m]?) = l := by simpa using q
    rw [q3]
  rw [z xs.toList.reverse xs.size (by rw [List.length_reverse, Array.length_toList])]
theorem getItem_tuple_rev {prog : Program} {w : World} {A : Around} {E : Value → Shared → Prop} {s : Shared} {t sl : Addr} {items : Array Value} {vl vu vs : Value} {Q : Value → Shared → Prop} (ht : IsTup s.heap t items) (hs : s.heap.IsSliceOf sl vl vu vs) (pl : IsPart vl none) (pu : IsPart vu none) (ps : IsPart vs (some (-1)))
    (h : Q (.ref s.heap.objs.size) { s with heap := s.heap.push { cls := .type "tuple", data := .seq items.toList.reverse.toArray } }) (hsz : items.size ≤ sizeLine) : wpAny (model prog w) A (getItem (.ref t) (.ref sl)) Q E s := by
  have htake : sizeOk (.seq items.toList.reverse.toArray) := by
    show items.toList.reverse.toArray.size ≤ sizeLine
    rw [List.size_toArray, List.length_reverse, Array.length_toList]
    exact hsz
  obtain ⟨os, hos, hcs, hds⟩ := id hs
  have hTs : s.TypeIs (.ref sl) "slice" := ⟨os, hos, hcs⟩
  unfold getItem
  try with_reducible refine wpAny_holding ?_
  first | refine wpAny_bind (wpAny_pure ?_) | skip
  refine wpAny_bind (wpAny_sequenceKey ht.typeIs (by decide) ?_)
  refine wpAny_bind (wpAny_callSpecial?_slot (name := Str.ofString "__getitem__") ht.typeIs PyProof.Rows.slot_tuple_getitem
    (wpAny_call_entry PyProof.Rows.slot_tuple_getitem ht.typeIs entry_tuple_getitem ?_ (args_tuple_getitem _ _)))
  show wpAny _ _ (Builtin.Tuple.tupleItemsOf (.ref t) >>= _) _ _ s
  refine wpAny_bind (tupleItemsOf_ ht ?_)
  refine wpAny_bind (wpAny_typeOf hTs ?_)
  rw [if_pos (by decide)]
  refine wpAny_bind (sliceApplied_rev hs pl pu ps ?_)
  have hno : ¬ ((((items.size : Int) - 1) == 0 && (-1 : Int) == 1 && items.size == items.size) = true) := by
    intro q
    rw [Bool.and_eq_true, Bool.and_eq_true] at q
    exact absurd q.1.2 (by decide)
  show wpAny _ _ (if (((items.size : Int) - 1) == 0 && (-1 : Int) == 1 && items.size == items.size) = true then _ else _) _ _ s
  rw [if_neg hno, pick_rev]
  first
    | exact wpAny_bind (m := Builtin.Tuple.tupleExact _) (wpAny_newObj_type (wpAny_pure ⟨_, rfl, wpAny_pure h⟩) htake)
    | exact wpAny_bind (m := Builtin.Tuple.tupleExact _) (wpAny_newObj_type (wpAny_bind (wpAny_pure (wpAny_pure ⟨_, rfl, wpAny_pure h⟩))) htake)
    | exact wpAny_bind (wpAny_bind (m := Builtin.Tuple.tupleExact _) (wpAny_newObj_type (wpAny_pure (wpAny_pure ⟨_, rfl, wpAny_pure h⟩)) htake))
    | exact wpAny_bind (wpAny_bind (m := Builtin.Tuple.tupleExact _) (wpAny_newObj_type (wpAny_pure ⟨_, rfl, wpAny_pure h⟩) htake))
def revD : Da → R Da
  | .list xs => .ok (.list xs.reverse)
  | .tuple xs => .ok (.tuple xs.reverse)
  | _ => .no
def tRv (K : PySem.W.Frag) (te : TE) : TE := fun σ H Q => te σ H fun x H1 => (∃ a xs, x = .ref a ∧ SqL K H1 a xs ∧ ∀ p, H1 p = none → Q (.ref p) (upd H1 p (.lst xs.reverse))) ∨ ∃ a xs, x = .ref a ∧ SqT K H1 a xs ∧ ∀ p, H1 p = none → Q (.ref p) (upd H1 p (.tup xs.reverse))
theorem pe_rev {e : Expr} {te : TE} {k : Nat} {p1 p2 p3 pos : Pos} (he : PE X e te) : PE X (.Subscript e (.Slice none none (some (.UnaryOp .USub (.Constant (.int 1) k p1) p2)) p3) pos) (tRv X.K te) := by
  refine ⟨fun pins s σ H Q I h => ?_⟩
  refine Subscript_ (thn (he.run pins s σ H _ I h) fun v s1 ⟨x, H1, I1, r1, q1⟩ => ?_)
  have hst : PO X (some (.UnaryOp .USub (.Constant (.int 1) k p1) p2)) (tPart (tUn (rU fun i => .int (-i)) (tC (.int 1)))) := po_some (pe_un un_neg pe_int)
  refine wpAny_Slice (thn (po_none.run pins s1 σ H1 (fun o H2 => o = none ∧ H2 = H1) I1 ⟨rfl, rfl⟩) fun vl s2 ⟨l, H2, I2, pl, el, e2⟩ => ?_)
  subst el e2
  refine thn (po_none.run pins s2 σ H2 (fun o H3 => o = none ∧ H3 = H2) I2 ⟨rfl, rfl⟩) fun vu s3 ⟨u, H3, I3, pu, eu, e3⟩ => ?_
  subst eu e3
  refine thn (hst.run pins s3 σ H3 (fun o H4 => o = some (-1) ∧ H4 = H3) I3 ⟨1, rfl, -1, rfl, rfl, rfl⟩) fun vs s4 ⟨o, H4, I4, ps, eo, e4⟩ => ?_
  subst eo e4
  have I5 : Inv X pins σ H4 { s4 with heap := s4.heap.push { cls := .type "slice", data := .fields #[vl, vu, vs] } } := I4.kept (t' := s4.toks) fun b ob q => Heap.get?_push_of_some _ q
  rcases q1 with ⟨a, xs, ex, hx, q⟩ | ⟨a, xs, ex, hx, q⟩
  · subst ex
    cases r1
    obtain ⟨its, r, ht, hz⟩ := I5.list hx
    have hlen := r.length
    show wpAny (model X.prog X.w) X.A (subscriptTail e (.Slice none none (some (.UnaryOp .USub (.Constant (.int 1) k p1) p2)) p3) (.ref a) (.ref s4.heap.objs.size)) (EP X pins σ Q) X.xe { s4 with heap := s4.heap.push { cls := .type "slice", data := .fields #[vl, vu, vs] } }
    refine tail_any (ops := [.ref a, .ref s4.heap.objs.size]) ht.isList.typeIs (PySem.slot_list_getitem.lookup) ?_ (by with_unfolding_all rfl)
    refine wpAny_getItem_list_slice ht.isList (Heap.IsSliceOf.new _ vl vu vs) pl pu ps (by decide) ?_ (by rw [List.size_toArray]; omega)
    rw [PySem.W.krv_pick]
    refine ⟨.ref _, _, I5.laid (t' := s4.toks) (o := .lst xs.reverse) (fun b ob q => Heap.get?_push_of_some _ q) (Nat.le_refl _) ?_, rfl, q _ (I5.hok.fresh (Nat.le_refl _))⟩
    exact ⟨by rw [List.length_reverse]; exact hz, _, 0, r.reverse, Heap.get?_push_size _ rfl⟩
  · subst ex
    cases r1
    obtain ⟨its, r, ht, hz⟩ := I5.tuple hx
    have hlen := r.length
    show wpAny (model X.prog X.w) X.A (subscriptTail e (.Slice none none (some (.UnaryOp .USub (.Constant (.int 1) k p1) p2)) p3) (.ref a) (.ref s4.heap.objs.size)) (EP X pins σ Q) X.xe { s4 with heap := s4.heap.push { cls := .type "slice", data := .fields #[vl, vu, vs] } }
    refine tail_any (ops := [.ref a, .ref s4.heap.objs.size]) ht.typeIs PyProof.Rows.slot_tuple_getitem.lookup ?_ (by with_unfolding_all rfl)
    refine getItem_tuple_rev ht (Heap.IsSliceOf.new _ vl vu vs) pl pu ps ?_ (by rw [List.size_toArray]; omega)
    refine ⟨.ref _, _, I5.laid (t' := s4.toks) (o := .tup xs.reverse) (fun b ob q => Heap.get?_push_of_some _ q) (Nat.le_refl _) ?_, rfl, q _ (I5.hok.fresh (Nat.le_refl _))⟩
    exact ⟨by rw [List.length_reverse]; exact hz, _, r.reverse, IsTup.new _ _⟩
def eRev (f : Env → R Da) : Env → R Da := fun r => (f r).bind revD
theorem de_rev {e : Expr} {f : Env → R Da} {k0 : Nat} {p1 p2 p3 pos : Pos} (he : DR cls X W e f) : DE cls X W (.Subscript e (.Slice none none (some (.UnaryOp .USub (.Constant (.int 1) k0 p1) p2)) p3) pos) (eRev f) := by
  obtain ⟨t, pt, he⟩ := he.run
  refine ⟨_, pe_rev pt, fun F B H σ r Q k p => he F B H σ r _ k (p.bind.imp fun d B1 H1 s1 p1 v hv => ?_)⟩
  cases d with
  | list ds =>
    obtain ⟨p, xs, rfl, h1, h2⟩ := hv.list s1.bh
    exact .inl ⟨p, xs, rfl, h1, fun p np => p1 _ _ (Stp.new s1.bh np) _ (.lst (.inl (.inl upd_same)) (h2.reverse.mono (Le.new (s1.bh.back np))))⟩
  | tuple ds =>
    obtain ⟨p, xs, rfl, h1, _, h2⟩ := hv.tuple s1.bh
    exact .inr ⟨p, xs, rfl, h1, fun p np => p1 _ _ (Stp.new s1.bh np) _ (.tup (.inl (.inl upd_same)) (h2.reverse.mono (Le.new (s1.bh.back np))))⟩
  | none => exact p1.elim
  | bool _ => exact p1.elim
  | int _ => exact p1.elim
  | str _ => exact p1.elim
  | dict _ => exact p1.elim
end
end Mi

/-! MiA: sorted. -/
namespace Mi
open PySem PySem.Spec PyProof.Rows L2

/-! ### the plain order -/
def isK (n : Nat) : Da → Bool
  | .int _ => n == 0
  | .str _ => n == 1
  | .tuple (x :: xs) => n == 2 && (intsD (x :: xs)).isSome
  | _ => false
def lexLtN : List Nat → List Nat → Bool
  | [], [] => false
  | [], _ :: _ => true
  | _ :: _, [] => false
  | x :: xs, y :: ys => if x = y then lexLtN xs ys else decide (x < y)
def leD : Da → Da → Bool
  | .int i, .int j => decide (i ≤ j)
  | .str x, .str y => !lexLtN y.cps.toList x.cps.toList
  | .tuple xs, .tuple ys => match intsD xs, intsD ys with
    | some ns, some ms => !lexLtI ms ns
    | _, _ => true
  | _, _ => true
def insD (x : Da) : List Da → List Da
  | [] => [x]
  | y :: ys => if leD x y then x :: y :: ys else y :: insD x ys
def isortD : List Da → List Da
  | [] => []
  | x :: xs => insD x (isortD xs)
def sortOk (ds : List Da) : Bool := ds.all (isK 0) || ds.all (isK 1) || ds.all (isK 2)

theorem lexLtN_eq : ∀ xs ys : List Nat, lexLtN xs ys = decide (xs < ys)
  | [], [] => by decide
  | [], y :: ys => by
    have h : ([] : List Nat) < y :: ys := List.nil_lt_cons y ys
    rw [decide_eq_true h]
    rfl
  | x :: xs, [] => by
    have h : ¬ (x :: xs < ([] : List Nat)) := List.not_lt_nil _
    rw [decide_eq_false h]
    rfl
  | x :: xs, y :: ys => by
    unfold lexLtN
    by_cases h : x = y
    · subst h
      rw [if_pos rfl, lexLtN_eq xs ys]
      exact decide_eq_decide.mpr (by rw [List.cons_lt_cons_iff]; simp)
    · rw [if_neg h]
      exact decide_eq_decide.mpr (by rw [List.cons_lt_cons_iff]; simp [h])
theorem lexLtI_eq : ∀ xs ys : List Int, lexLtI xs ys = decide (xs < ys)
  | [], [] => by decide
  | [], y :: ys => by
    have h : ([] : List Int) < y :: ys := List.nil_lt_cons y ys
    rw [decide_eq_true h]
    rfl
  | x :: xs, [] => by
    have h : ¬ (x :: xs < ([] : List Int)) := List.not_lt_nil _
    rw [decide_eq_false h]
    rfl
  | x :: xs, y :: ys => by
    unfold lexLtI
    by_cases h : x = y
    · subst h
      rw [if_pos rfl, lexLtI_eq xs ys]
      exact decide_eq_decide.mpr (by rw [List.cons_lt_cons_iff]; simp)
    · rw [if_neg h]
      exact decide_eq_decide.mpr (by rw [List.cons_lt_cons_iff]; simp [h])
theorem isK_inv : ∀ {n : Nat} {d : Da}, isK n d = true → (n = 0 ∧ ∃ i, d = .int i) ∨ (n = 1 ∧ ∃ x, d = .str x) ∨ (n = 2 ∧ ∃ i ns, d = .tuple ((i :: ns).map PyData.int))
  | n, .int i, h => by
    have h : (n == 0) = true := h
    exact .inl ⟨by simpa using h, i, rfl⟩
  | n, .str i, h => by
    have h : (n == 1) = true := h
    exact .inr (.inl ⟨by simpa using h, i, rfl⟩)
  | n, .tuple (x :: xs), h => by
    have h : (n == 2 && (intsD (x :: xs)).isSome) = true := h
    rw [Bool.and_eq_true] at h
    obtain ⟨h1, h2⟩ := h
    cases q : intsD (x :: xs) with
    | none => rw [q] at h2; cases h2
    | some ms =>
      have e := intsD_eq q
      cases ms with
      | nil => cases e
      | cons i ms => exact .inr (.inr ⟨by simpa using h1, i, ms, by rw [e]⟩)
  | n, .tuple [], h => by cases h
  | n, .none, h => by cases h
  | n, .bool _, h => by cases h
  | n, .list _, h => by cases h
  | n, .dict _, h => by cases h
theorem intsD_map : ∀ ns : List Int, intsD (ns.map PyData.int) = some ns
  | [] => rfl
  | n :: ns => by
    show (intsD (ns.map PyData.int)).map (n :: ·) = _
    rw [intsD_map ns]
    rfl
theorem leD_eq {n : Nat} {a b : Da} (ha : isK n a = true) (hb : isK n b = true) : PySem.W.dataLe false (fun d : Da => d) a b = leD a b := by
  rcases isK_inv ha with ⟨e1, i, rfl⟩ | ⟨e1, x, rfl⟩ | ⟨e1, i, ns, rfl⟩
  · rcases isK_inv hb with ⟨e2, j, rfl⟩ | ⟨e2, y, rfl⟩ | ⟨e2, j, ms, rfl⟩
    · have q := congrFun (congrFun (PySem.W.dataLe_int (β := Int) fun i => i) i) j
      exact q
    · omega
    · omega
  · rcases isK_inv hb with ⟨e2, j, rfl⟩ | ⟨e2, y, rfl⟩ | ⟨e2, j, ms, rfl⟩
    · omega
    · have q := congrFun (congrFun (PySem.W.dataLe_str (β := Str) fun i => i) x) y
      refine Eq.trans q ?_
      show _ = !lexLtN y.cps.toList x.cps.toList
      rw [lexLtN_eq, PySem.W.not_lt_str]
    · omega
  · rcases isK_inv hb with ⟨e2, j, rfl⟩ | ⟨e2, y, rfl⟩ | ⟨e2, j, ms, rfl⟩
    · omega
    · omega
    · show (!PySem.W.dataLt (.tuple ((j :: ms).map PyData.int)) (.tuple ((i :: ns).map PyData.int))) = leD _ _
      have q : PySem.W.dataLt (.tuple ((j :: ms).map PyData.int)) (.tuple ((i :: ns).map PyData.int)) = decide ((j :: ms) < (i :: ns)) := PySem.W.dataLt_ints (j :: ms) (i :: ns)
      rw [q, ← lexLtI_eq]
      show _ = (match intsD ((i :: ns).map PyData.int), intsD ((j :: ms).map PyData.int) with
        | some ns, some ms => !lexLtI ms ns
        | _, _ => true)
      rw [intsD_map, intsD_map]
theorem sortOk_inv {ds : List Da} (h : sortOk ds = true) : ∃ n, ∀ d ∈ ds, isK n d = true := by
  unfold sortOk at h
  rw [Bool.or_eq_true, Bool.or_eq_true] at h
  rcases h with (h | h) | h
  · exact ⟨0, List.all_eq_true.mp h⟩
  · exact ⟨1, List.all_eq_true.mp h⟩
  · exact ⟨2, List.all_eq_true.mp h⟩
theorem alike_of {n : Nat} {a b : Da} (ha : isK n a = true) (hb : isK n b = true) : PySem.W.alike a b = true := by
  rcases isK_inv ha with ⟨e1, i, rfl⟩ | ⟨e1, x, rfl⟩ | ⟨e1, i, ns, rfl⟩
  · rcases isK_inv hb with ⟨e2, j, rfl⟩ | ⟨e2, y, rfl⟩ | ⟨e2, j, ms, rfl⟩
    · simp [PySem.W.alike]
    · omega
    · omega
  · rcases isK_inv hb with ⟨e2, j, rfl⟩ | ⟨e2, y, rfl⟩ | ⟨e2, j, ms, rfl⟩
    · omega
    · simp [PySem.W.alike]
    · omega
  · rcases isK_inv hb with ⟨e2, j, rfl⟩ | ⟨e2, y, rfl⟩ | ⟨e2, j, ms, rfl⟩
    · omega
    · omega
    · have q : PySem.W.alike (.tuple ((i :: ns).map PyData.int)) (.tuple ((j :: ms).map PyData.int)) = PySem.W.alikeAll ((i :: ns).map PyData.int) ((j :: ms).map PyData.int) := by
        simp only [PySem.W.alike]
      rw [q]
      exact PySem.W.alike_ints _ _
theorem depth_of {n : Nat} {a : Da} (ha : isK n a = true) : a.depth ≤ 1 ∧ (n = 1 ∨ a.canLay0 = true) := by
  rcases isK_inv ha with ⟨e1, i, rfl⟩ | ⟨e1, x, rfl⟩ | ⟨e1, i, ns, rfl⟩
  · exact ⟨by simp [PyData.depth], .inr (by simp [PyData.canLay0])⟩
  · exact ⟨by simp [PyData.depth], .inl e1⟩
  · refine ⟨?_, .inr ?_⟩
    · simp only [PyData.depth]
      rw [PySem.W.depth_ints]
      omega
    · have z : ∀ l : List Int, PyData.canLayAll0 (l.map PyData.int) = true := fun l => by
        induction l with
        | nil => simp [PyData.canLayAll0]
        | cons x l ih => simp only [List.map_cons, PyData.canLayAll0, PyData.canLay0, ih, Bool.and_self]
      simp only [PyData.canLay0]
      exact z _
/-! ### insertion is merging -/
theorem insD_mem {x y : Da} : ∀ {l : List Da}, y ∈ insD x l → y = x ∨ y ∈ l
  | [], h => by
    rcases List.mem_cons.mp h with h | h
    · exact .inl h
    · cases h
  | z :: l, h => by
    have h : y ∈ (if leD x z then x :: z :: l else z :: insD x l) := h
    by_cases c : leD x z = true
    · rw [if_pos c] at h
      exact List.mem_cons.mp h
    · rw [if_neg c] at h
      rcases List.mem_cons.mp h with h | h
      · exact .inr (by rw [h]; exact List.mem_cons_self)
      · rcases insD_mem h with h | h
        · exact .inl h
        · exact .inr (List.mem_cons_of_mem _ h)
theorem isortD_mem {y : Da} : ∀ {l : List Da}, y ∈ isortD l → y ∈ l
  | [], h => h
  | x :: l, h => by
    rcases insD_mem h with h | h
    · rw [h]
      exact List.mem_cons_self
    · exact List.mem_cons_of_mem _ (isortD_mem h)
theorem insD_perm (x : Da) : ∀ l : List Da, (insD x l).Perm (x :: l)
  | [] => .refl _
  | z :: l => by
    show (if leD x z then x :: z :: l else z :: insD x l).Perm _
    by_cases c : leD x z = true
    · rw [if_pos c]
    · rw [if_neg c]
      exact ((insD_perm x l).cons z).trans (.swap x z l)
theorem isortD_perm : ∀ l : List Da, (isortD l).Perm l
  | [] => .refl _
  | x :: l => (insD_perm x _).trans ((isortD_perm l).cons x)
section
variable {le : Da → Da → Bool}
def insG (le : Da → Da → Bool) (x : Da) : List Da → List Da
  | [] => [x]
  | y :: ys => if le x y then x :: y :: ys else y :: insG le x ys
def isortG (le : Da → Da → Bool) : List Da → List Da
  | [] => []
  | x :: xs => insG le x (isortG le xs)
theorem insG_mem {x y : Da} : ∀ {l : List Da}, y ∈ insG le x l → y = x ∨ y ∈ l
  | [], h => by
    rcases List.mem_cons.mp h with h | h
    · exact .inl h
    · cases h
  | z :: l, h => by
    have h : y ∈ (if le x z then x :: z :: l else z :: insG le x l) := h
    by_cases c : le x z = true
    · rw [if_pos c] at h
      exact List.mem_cons.mp h
    · rw [if_neg c] at h
      rcases List.mem_cons.mp h with h | h
      · exact .inr (by rw [h]; exact List.mem_cons_self)
      · rcases insG_mem h with h | h
        · exact .inl h
        · exact .inr (List.mem_cons_of_mem _ h)
theorem insG_sorted (t : PySem.W.TotalLe le) (x : Da) : ∀ l : List Da, l.Pairwise (fun a b => le a b = true) → (insG le x l).Pairwise (fun a b => le a b = true)
  | [], _ => List.pairwise_singleton _ _
  | y :: l, h => by
    show (if le x y then x :: y :: l else y :: insG le x l).Pairwise _
    obtain ⟨h1, h2⟩ := List.pairwise_cons.mp h
    by_cases c : le x y = true
    · rw [if_pos c]
      refine List.pairwise_cons.mpr ⟨fun z hz => ?_, h⟩
      rcases List.mem_cons.mp hz with hz | hz
      · rw [hz]; exact c
      · exact t.trans _ _ _ c (h1 z hz)
    · rw [if_neg c]
      refine List.pairwise_cons.mpr ⟨fun z hz => ?_, insG_sorted t x l h2⟩
      rcases insG_mem hz with hz | hz
      · rw [hz]
        rcases t.total x y with q | q
        · exact absurd q c
        · exact q
      · exact h1 z hz
theorem insG_filter (t : PySem.W.TotalLe le) (x c : Da) : ∀ l : List Da, l.Pairwise (fun a b => le a b = true) → (insG le x l).filter (PySem.W.sameRank le c) = (x :: l).filter (PySem.W.sameRank le c)
  | [], _ => rfl
  | y :: l, h => by
    show (if le x y then x :: y :: l else y :: insG le x l).filter _ = _
    obtain ⟨h1, h2⟩ := List.pairwise_cons.mp h
    by_cases q : le x y = true
    · rw [if_pos q]
    · rw [if_neg q, List.filter_cons, insG_filter t x c l h2, List.filter_cons, List.filter_cons, List.filter_cons]
      cases hx : PySem.W.sameRank le c x with
      | true =>
        cases hy : PySem.W.sameRank le c y with
        | true =>
          unfold PySem.W.sameRank at hx hy
          rw [Bool.and_eq_true] at hx hy
          exact absurd (t.trans _ _ _ hx.2 hy.1) q
        | false => simp
      | false => simp
theorem isortG_sorted (t : PySem.W.TotalLe le) : ∀ l : List Da, (isortG le l).Pairwise (fun a b => le a b = true)
  | [] => List.Pairwise.nil
  | x :: l => insG_sorted t x _ (isortG_sorted t l)
theorem isortG_filter (t : PySem.W.TotalLe le) (c : Da) : ∀ l : List Da, (isortG le l).filter (PySem.W.sameRank le c) = l.filter (PySem.W.sameRank le c)
  | [] => rfl
  | x :: l => by
    show (insG le x (isortG le l)).filter _ = _
    rw [insG_filter t x c _ (isortG_sorted t l), List.filter_cons, isortG_filter t c l, List.filter_cons]
theorem isortG_eq (t : PySem.W.TotalLe le) (l : List Da) : isortG le l = l.mergeSort le := PySem.W.sort_unique t (isortG_sorted t l) fun c => isortG_filter t c l
theorem insG_congr {x : Da} : ∀ {l : List Da}, (∀ y ∈ l, le x y = leD x y) → insG le x l = insD x l
  | [], _ => rfl
  | y :: l, h => by
    show (if le x y then x :: y :: l else y :: insG le x l) = (if leD x y then x :: y :: l else y :: insD x l)
    rw [h y List.mem_cons_self, insG_congr fun z hz => h z (List.mem_cons_of_mem _ hz)]
theorem isortG_congr : ∀ {l : List Da}, (∀ x ∈ l, ∀ y ∈ l, le x y = leD x y) → isortG le l = isortD l
  | [], _ => rfl
  | x :: l, h => by
    show insG le x (isortG le l) = insD x (isortD l)
    rw [isortG_congr fun a ha b hb => h a (List.mem_cons_of_mem _ ha) b (List.mem_cons_of_mem _ hb)]
    exact insG_congr fun y hy => h x List.mem_cons_self y (List.mem_cons_of_mem _ (isortD_mem hy))
end
theorem isortD_eq {ds : List Da} (h : sortOk ds = true) : ds.mergeSort (PySem.W.dataLe false fun d : Da => d) = isortD ds := by
  obtain ⟨n, hn⟩ := sortOk_inv h
  have t : PySem.W.TotalLe (PySem.W.dataLe false fun d : Da => d) := PySem.W.sortLe_total _ _ _
  rw [← isortG_eq t]
  exact isortG_congr fun x hx y hy => leD_eq (hn x hx) (hn y hy)

/-! ### the call -/
section
variable {prog : Program} {w : World} {A : Around} {E : Value → Shared → Prop} {s : Shared} {v : Value} {vs : List Value} {Q : Value → Shared → Prop}
open PySem.W PySem.Calls in
theorem sorted_from (hcol : ∀ (A : Around) (E : Value → Shared → Prop) (Q : List Value → Shared → Prop), (∀ h' tk, (∀ b o, s.heap.get? b = some o → h'.get? b = some o) → Q vs { s with heap := h', toks := tk }) → wpAny (model prog w) A (collect v) Q E s) (hL : vs.length ≤ sizeLine)
    (ha1 : argsOk "sorted" ⟨[v], []⟩)
    (body : ∀ (E' : Value → Shared → Prop) (h' : Heap) (tk : Nat), (∀ b o, s.heap.get? b = some o → h'.get? b = some o) →
      wpAny (model prog w) A.in1.in1 (Builtin.«list.sort» ⟨[.ref h'.objs.size], []⟩) (fun f s' => f = .done (.ret .none) ∧ Q (.ref h'.objs.size) s') E' { s with heap := h'.push (seqObj "list" vs.toArray 0), toks := tk }) :
    wpAny (model prog w) A (call (.builtin "sorted") [v]) Q E s := by
  refine call_function_entry_kw kind_sorted plain_sorted entry_sorted ha1 ?_
  unfold Builtin.«sorted»
  refine wpAny_bind (m := checkCount "sorted" 1 1 _) (wpAny_pure ?_)
  refine wpAny_bind (hcol _ _ _ fun h' tk keep => ?_)
  refine wpAny_bind (wpAny_newList ?_ hL)
  have hat : (h'.push (seqObj "list" vs.toArray 0)).get? h'.objs.size = some (seqObj "list" vs.toArray 0) := Heap.get?_push_size _ rfl
  refine wpAny_bind (wpAny_holding (wpAny_call_entry_kw slot_list_sort ⟨_, hat, rfl⟩ entry_list_sort ?body (args_list_sort _)))
  case body =>
    refine wpAny_mono (body _ h' tk keep) (fun f s' hf => ?_) fun _ _ e => e
    obtain ⟨rfl, hq⟩ := hf
    exact ⟨_, rfl, wpAny_pure ⟨_, rfl, hq⟩⟩
end

section
variable {cls : String → Value} {X : Cx} {W : WX}
theorem pairs_of {K : PySem.W.Frag} {B : Hp} : ∀ {xs : List V} {ds : List Da} {its : List Value}, RepAll K B xs ds → Vals xs its → ∃ bs : List (V × Da), bs.map (·.2) = ds ∧ (∀ b ∈ bs, Rep K B b.1 b.2) ∧ PySem.W.EachIs (fun v (b : V × Da) => RelV b.1 v) its bs
  | _, _, _, .nil, .nil => ⟨[], rfl, (fun _ h => by cases h), .nil⟩
  | x :: _, d :: _, _, .cons h r, .cons h2 r2 => by
    obtain ⟨bs, e1, e2, e3⟩ := pairs_of r r2
    refine ⟨(x, d) :: bs, by rw [List.map_cons, e1], fun b hb => ?_, .cons h2 e3⟩
    rcases List.mem_cons.mp hb with rfl | hb
    · exact h
    · exact e2 b hb
theorem of_pairs {K : PySem.W.Frag} {B : Hp} : ∀ {bs : List (V × Da)} {out : List Value}, (∀ b ∈ bs, Rep K B b.1 b.2) → PySem.W.EachIs (fun v (b : V × Da) => RelV b.1 v) out bs → RepAll K B (bs.map (·.1)) (bs.map (·.2)) ∧ Vals (bs.map (·.1)) out
  | [], [], _, .nil => ⟨.nil, .nil⟩
  | b :: bs, o :: out, h, .cons h2 r2 => by
    obtain ⟨q1, q2⟩ := of_pairs (fun c hc => h c (List.mem_cons_of_mem _ hc)) r2
    exact ⟨.cons (h b List.mem_cons_self) q1, .cons h2 q2⟩
theorem each_reads {h : Heap} : ∀ {its : List Value} {bs : List (V × Da)} {ds : List Da} {as : List Addr}, bs.map (·.2) = ds → ReadsAll h its ds as → PySem.W.EachIs (fun v (b : V × Da) => ∃ as, Reads h v b.2 as) its bs := by
  intro its bs ds as e r
  subst e
  exact PySem.W.readsAll_each (fun b : V × Da => b.2) r
def sortD : Da → R Da
  | .list ds => if sortOk ds && ds.all PyData.canLay0 then .ok (.list (isortD ds)) else .no
  | .tuple ds => if sortOk ds && ds.all PyData.canLay0 then .ok (.list (isortD ds)) else .no
  | _ => .no
theorem canAll_of : ∀ {ds : List Da}, ds.all PyData.canLay0 = true → PyData.canLayAll0 ds = true
  | [], _ => by simp [PyData.canLayAll0]
  | d :: ds, h => by
    rw [List.all_cons, Bool.and_eq_true] at h
    simp only [PyData.canLayAll0, h.1, canAll_of h.2, Bool.and_self]
open PySem.W in
theorem sorted_run {pins : List (Addr × Obj)} {s : Shared} {σ : L2.St} {B H : Hp} {p : Addr} {T : String} {o : Obj} {n : Nat} {xs : List V} {ds : List Da} {its : List Value} {Q : VK} {k : Nat} (hr : Room k X.A) (I : Inv X pins σ H s) (b : Le B H) (hT : T = "list" ∨ T = "tuple") (ho : s.heap.get? p = some o) (hc : o.cls = .type T) (hd : o.data = .seq its.toArray n)
    (rv : Vals xs its) (hs : RepAll X.K B xs ds) (hz : xs.length ≤ sizeLine) (ok : sortOk ds = true) (cl : ds.all PyData.canLay0 = true)
    (q : ∀ B' H' p, Stp B H B' H' → H p = none → B' p = none → OwnD X.K B' H' p (.list (isortD ds)) → Q (.ref p) H') : wpAny (model X.prog X.w) X.A (call (.builtin "sorted") [.ref p]) (EP X pins σ Q) X.xe s := by
  obtain ⟨bs, eb, rb, eachR⟩ := pairs_of hs rv
  obtain ⟨m, hm⟩ := sortOk_inv ok
  obtain ⟨as, hreads⟩ := Dp.readsAll I ds _ its ((hs.mono b).dp (canAll_of cl)) rv
  have eachD := each_reads eb hreads
  have hlen : its.length = bs.length := eachR.length
  have hlen2 := rv.length
  have hal : AllAlike (bs.map fun b => b.2) := by
    rw [eb]
    exact fun d hd d' hd' => alike_of (hm d hd) (hm d' hd')
  have hso : W.Sortable (bs.map fun b => b.2) := by
    rw [eb]
    by_cases h2 : m = 2
    · refine .inl fun d hd => ?_
      rcases isK_inv (hm d hd) with ⟨e, _⟩ | ⟨e, _⟩ | ⟨_, i, ns, e⟩
      · omega
      · omega
      · exact ⟨.int i, ns.map PyData.int, by rw [e]; rfl⟩
    · refine .inr fun d hd => ?_
      rcases isK_inv (hm d hd) with ⟨_, i, e⟩ | ⟨_, i, e⟩ | ⟨e, _⟩
      · subst e
        exact ⟨by simp, by simp⟩
      · subst e
        exact ⟨by simp, by simp⟩
      · exact absurd e h2
  have hu := hr.units
  refine sorted_from (vs := its) (fun A' E' Q' h => ?_) (by omega) (args_sorted1 _) fun E' h' tk keep => ?_
  · exact wpAny_collect_seq p hT ho hc hd (fun h' kp => h h' s.toks kp) (by rw [List.size_toArray]; omega)
  · have I1 : Inv X pins σ H { s with heap := h', toks := tk } := I.kept keep
    have hat : (h'.push (seqObj "list" its.toArray 0)).get? h'.objs.size = some (seqObj "list" its.toArray 0) := Heap.get?_push_size _ rfl
    have keep2 : ∀ b o, h'.get? b = some o → b ≠ h'.objs.size ∧ (h'.push (seqObj "list" its.toArray 0)).get? b = some o := fun b o e => ⟨Nat.ne_of_lt (Heap.lt_size e), Heap.get?_push_of_some _ e⟩
    have er' : EachIs (fun v (b : V × Da) => ∃ as, Reads (sortingHeap (h'.push (seqObj "list" its.toArray 0)) h'.objs.size its) v b.2 as) its bs := eachD.mono fun v b ⟨as, r⟩ => ⟨as, PyProof.Rows.Reads.keeps (fun c oc ec => sortingHeap_old (keep2 c oc (keep c oc ec)).1 (keep2 c oc (keep c oc ec)).2) r⟩
    have S : SortsAt X.prog X.w X.A.in1.in1 { s with heap := sortingHeap (h'.push (seqObj "list" its.toArray 0)) h'.objs.size its, toks := tk } (dataKind (sortingHeap (h'.push (seqObj "list" its.toArray 0)) h'.objs.size its) (bs.map fun b => b.2)) its :=
      SortsAt.data (s := { s with heap := sortingHeap (h'.push (seqObj "list" its.toArray 0)) h'.objs.size its, toks := tk }) (each_map (R := fun v d => ∃ as, Reads (sortingHeap (h'.push (seqObj "list" its.toArray 0)) h'.objs.size its) v d as) (fun b : V × Da => b.2) er') hal hso (fun d hd => by
        rw [eb] at hd
        have := (depth_of (hm d hd)).1
        show X.A.units + 2 + d.depth < cLine
        omega)
    refine list_sort_vals (s := { s with heap := h'.push (seqObj "list" its.toArray 0), toks := tk }) hat S (by omega) ⟨rfl, ?_⟩
    have out := sortVals_data false eachR er' hal
    have eo : (bs.mergeSort (dataLe false fun b => b.2)).map (·.2) = isortD ds := by
      rw [← isortD_eq ok, ← eb]
      exact sort_maps (fun b : V × Da => b.2) fun a ha b hb => rfl
    have rb' : ∀ b ∈ bs.mergeSort (dataLe false fun b => b.2), Rep X.K B b.1 b.2 := fun b hb => rb b (List.mem_mergeSort.mp hb)
    obtain ⟨o1, o2⟩ := of_pairs rb' out
    rw [eo] at o1
    obtain ⟨ep, he'⟩ := sortedHeap_at (vs := its) (out := (sortVals (dataKind (sortingHeap (h'.push (seqObj "list" its.toArray 0)) h'.objs.size its) (bs.map fun b => b.2)) false its its).toArray) hat
    have fresh : H h'.objs.size = none := I1.hok.fresh (Nat.le_refl _)
    refine ⟨.ref h'.objs.size, upd H h'.objs.size (.lst ((bs.mergeSort (dataLe false fun b => b.2)).map (·.1))), I1.laid (t' := tk) (fun c oc ec => ?_) (Nat.le_refl _) ⟨?_, _, ep, o2, he'⟩, rfl, q B _ _ (Stp.drop b fresh) fresh (b.back fresh) ⟨_, upd_same, o1⟩⟩
    · have h1 := keep2 c oc ec
      rw [sortedHeap_old h1.1 (Heap.lt_size h1.2)]
      exact h1.2
    · rw [List.length_map, List.length_mergeSort]
      omega
theorem SqL.at {pins : List (Addr × Obj)} {s : Shared} {σ : L2.St} {H : Hp} {p : Addr} {xs : List V} (I : Inv X pins σ H s) (h : SqL X.K H p xs) : ∃ its o n, Vals xs its ∧ s.heap.get? p = some o ∧ o.cls = .type "list" ∧ o.data = .seq its.toArray n ∧ xs.length ≤ sizeLine := by
  obtain ⟨its, r, ⟨o, n, ho, hc, _, hd⟩, hz⟩ := I.list h
  exact ⟨its, o, n, r, ho, hc, hd, hz⟩
theorem SqT.at {pins : List (Addr × Obj)} {s : Shared} {σ : L2.St} {H : Hp} {p : Addr} {xs : List V} (I : Inv X pins σ H s) (h : SqT X.K H p xs) : ∃ its o n, Vals xs its ∧ s.heap.get? p = some o ∧ o.cls = .type "tuple" ∧ o.data = .seq its.toArray n ∧ xs.length ≤ sizeLine := by
  obtain ⟨its, r, ⟨o, ho, hc, n, hd⟩, hz⟩ := I.tuple h
  exact ⟨its, o, n, r, ho, hc, hd, hz⟩
theorem c_sorted {k : Nat} (hr : Room k X.A) : CallR X (.builtin "sorted") (rFc X.K (d1 sortD)) := callF1 fun pins s σ B H x d0 d us Q I r b h1 e q => by
  cases d0 with
  | list ds =>
    have e : (if (sortOk ds && ds.all PyData.canLay0) = true then R.ok (PyData.list (isortD ds)) else .no) = .ok d := e
    by_cases c : (sortOk ds && ds.all PyData.canLay0) = true
    · rw [if_pos c] at e
      cases e
      rw [Bool.and_eq_true] at c
      obtain ⟨p, xs, rfl, h2, h3⟩ := h1.list b
      obtain ⟨its, o, n, rv, ho, hc, hd, hz⟩ := SqL.at I h2
      rw [Vals.ref1 r]
      exact sorted_run hr I b (.inl rfl) ho hc hd rv h3 hz c.1 c.2 q
    · rw [if_neg c] at e
      cases e
  | tuple ds =>
    have e : (if (sortOk ds && ds.all PyData.canLay0) = true then R.ok (PyData.list (isortD ds)) else .no) = .ok d := e
    by_cases c : (sortOk ds && ds.all PyData.canLay0) = true
    · rw [if_pos c] at e
      cases e
      rw [Bool.and_eq_true] at c
      obtain ⟨p, xs, rfl, h2, _, h3⟩ := h1.tuple b
      obtain ⟨its, o, n, rv, ho, hc, hd, hz⟩ := SqT.at I h2
      rw [Vals.ref1 r]
      exact sorted_run hr I b (.inr rfl) ho hc hd rv h3 hz c.1 c.2 q
    · rw [if_neg c] at e
      cases e
  | none => cases e
  | bool _ => cases e
  | int _ => cases e
  | str _ => cases e
  | dict _ => cases e
end
end Mi

/-! MiB: conversions, texts, membership, sets. -/
namespace Mi
open PySem PySem.Spec PyProof.Rows L2
section
variable {cls : String → Value} {X : Cx} {W : WX}

theorem df_bltB {x : Str} {id : String} {g : List Da → R Da} {e : Expr} {es : List Expr} {fs : Env → R (List Da)} {p pos : Pos} (hc : CallR X (.builtin id) (rFc X.K g)) (hm : X.mg x = none) (hv : bootBuiltins x = some (.builtin id)) (ha : DB cls X W (e :: es) fs) (hg : Gl X x := by rfl)
    (hn : x ≠ "__name__" := by decide) (hdb : (x == ("__debug__" : Str)) = false := by decide) (he : starEach (e :: es) X.env = (false, eval e X.env) :: starEach es X.env := by rfl) (hpl : (backTo pos (starEach es X.env)).any (·.1) = false := by rfl) : DF cls X W (.Call (.Name x p) (e :: es) [] pos) (eBl g fs) := by
  obtain ⟨t, pt, h⟩ := ha.run
  refine ⟨_, pe_callB hc hg hm hv pt hn hdb he hpl, fun F B H σ r Q k p => h F B H σ r _ k (p.bind.imp fun ds B1 H1 s1 p1 vs hvs => ?_)⟩
  obtain ⟨d, e, h'⟩ := p1.calm
  exact ⟨B1, ds, d, s1.bh, hvs, e, fun B' H' v s n b o => h' B' H' s v (s1.hh.back n) b o⟩

/-! ### list(x), tuple(x) -/
def listD : Da → R Da
  | .list ds => .ok (.list ds)
  | .tuple ds => .ok (.list ds)
  | _ => .no
def tupleD : Da → R Da
  | .list ds => .ok (.tuple ds)
  | .tuple ds => .ok (.tuple ds)
  | _ => .no
theorem c_list : CallR X (.type "list") (rFc X.K (d1 listD)) := callF1 fun pins s σ B H x d0 d us Q I r b h1 e q => by
  cases d0 with
  | list ds =>
    cases e
    obtain ⟨p, xs, rfl, h2, h3⟩ := h1.list b
    exact call_list_of pins s σ H _ us Q I r ⟨p, xs, rfl, .inl h2, fun l hl => q B _ l (Stp.drop b hl) hl (b.back hl) ⟨xs, upd_same, h3⟩⟩
  | tuple ds =>
    cases e
    obtain ⟨p, xs, rfl, h2, _, h3⟩ := h1.tuple b
    exact call_list_of pins s σ H _ us Q I r ⟨p, xs, rfl, .inr h2, fun l hl => q B _ l (Stp.drop b hl) hl (b.back hl) ⟨xs, upd_same, h3⟩⟩
  | none => cases e
  | bool _ => cases e
  | int _ => cases e
  | str _ => cases e
  | dict _ => cases e
theorem c_tuple : CallR X (.type "tuple") (rDc X.K (d1 tupleD)) := call1 fun pins s σ B H x d0 d us Q I r b h1 e q => by
  cases d0 with
  | list ds =>
    cases e
    obtain ⟨p, xs, rfl, h2, h3⟩ := h1.list b
    exact call_tuple_of pins s σ H _ us Q I r ⟨p, xs, rfl, .inl ⟨h2, fun l hl => q _ _ _ (Stp.new b hl) (.tup (.inl (.inl upd_same)) (h3.mono (Le.new (b.back hl))))⟩⟩
  | tuple ds =>
    cases e
    obtain ⟨p, xs, rfl, h2, h2', h3⟩ := h1.tuple b
    exact call_tuple_of pins s σ H _ us Q I r ⟨p, xs, rfl, .inr ⟨h2, q B H _ (Stp.refl b) (.tup h2' h3)⟩⟩
  | none => cases e
  | bool _ => cases e
  | int _ => cases e
  | str _ => cases e
  | dict _ => cases e
/-! list(range(..)), tuple(range(..)) -/
theorem rg_rep {K : PySem.W.Frag} {B : Hp} {a b : Int} {ds : List Da} (e : rgD a b = .ok ds) : RepAll K B (rgV a b) ds ∧ RgOk a b := by
  unfold rgD at e
  by_cases c : -1000000 ≤ a ∧ a ≤ 1000000 ∧ -1000000 ≤ b ∧ b ≤ 1000000
  · rw [if_pos c] at e
    cases e
    refine ⟨?_, by omega, by omega, by omega, by omega, by omega⟩
    unfold rgV
    have z : ∀ l : List Nat, RepAll K B (l.map fun i => V.int (a + (i : Nat))) (l.map fun i => PyData.int (a + (i : Nat))) := fun l => by
      induction l with
      | nil => exact .nil
      | cons x l ih => exact .cons (.int _) ih
    exact z _
  · rw [if_neg c] at e
    cases e
theorem rgD_no {a b : Int} {c : String} : rgD a b ≠ .er c := by
  unfold rgD
  split <;> intro h <;> cases h
def eLr (fi : Env → R (List Da)) : Env → R Da := fun r => (fi r).bind fun ds => .ok (.list ds)
def eTr (fi : Env → R (List Da)) : Env → R Da := fun r => (fi r).bind fun ds => .ok (.tuple ds)
theorem rg_post {φ : List Da → Hp → Hp → Prop} {B H : Hp} {σ : L2.St} {a b : Int} (bh : Le B H) (p : Pw cls B H σ W φ (rgD a b)) : ∃ ds, rgD a b = .ok ds ∧ φ ds B H := by
  cases e : rgD a b with
  | ok ds =>
    rw [e] at p
    exact ⟨ds, rfl, p B H (Stp.refl bh)⟩
  | er c => exact absurd e rgD_no
  | no =>
    rw [e] at p
    exact p.elim
theorem df_listR1 {e : Expr} {f : Env → R Da} {p p2 pos pos2 : Pos} (hm : X.mg "range" = none) (hm2 : X.mg "list" = none) (ha : DE cls X W e f) (hc : X.calm = true := by rfl) (hg : Gl X "range" := by rfl) (hg2 : Gl X "list" := by rfl) (na : starEach [e] X.env = (false, eval e X.env) :: starEach [] X.env := by rfl)
    (na2 : starEach [.Call (.Name "range" p2) [e] [] pos2] X.env = (false, eval (.Call (.Name "range" p2) [e] [] pos2) X.env) :: starEach [] X.env := by rfl) : DF cls X W (.Call (.Name "list" p) [.Call (.Name "range" p2) [e] [] pos2] [] pos) (eLr (iR1 f)) := by
  obtain ⟨t, pt, h⟩ := ha.run
  refine ⟨_, pe_listRg hc hg2 hm2 (prg_1 hg hm pt na) na2, fun F B H σ r Q k p => h F B H σ r _ k (p.bind.bind.imp fun d B1 H1 s1 p1 v hv => ?_)⟩
  cases d with
  | int n =>
    cases hv
    obtain ⟨ds, e, q⟩ := rg_post s1.bh p1
    obtain ⟨h1, h2⟩ := rg_rep (K := X.K) (B := B1) e
    exact ⟨n, rfl, h2, fun l hl => q B1 _ (Stp.drop s1.bh hl) l (s1.hh.back hl) (s1.bh.back hl) ⟨_, upd_same, h1⟩⟩
  | none => exact p1.elim
  | bool _ => exact p1.elim
  | str _ => exact p1.elim
  | list _ => exact p1.elim
  | tuple _ => exact p1.elim
  | dict _ => exact p1.elim
theorem de_tupR1 {e : Expr} {f : Env → R Da} {p p2 pos pos2 : Pos} (hm : X.mg "range" = none) (hm2 : X.mg "tuple" = none) (ha : DE cls X W e f) (hc : X.calm = true := by rfl) (hg : Gl X "range" := by rfl) (hg2 : Gl X "tuple" := by rfl) (na : starEach [e] X.env = (false, eval e X.env) :: starEach [] X.env := by rfl)
    (na2 : starEach [.Call (.Name "range" p2) [e] [] pos2] X.env = (false, eval (.Call (.Name "range" p2) [e] [] pos2) X.env) :: starEach [] X.env := by rfl) : DE cls X W (.Call (.Name "tuple" p) [.Call (.Name "range" p2) [e] [] pos2] [] pos) (eTr (iR1 f)) := by
  obtain ⟨t, pt, h⟩ := ha.run
  refine ⟨_, pe_tupRg hc hg2 hm2 (prg_1 hg hm pt na) na2, fun F B H σ r Q k p => h F B H σ r _ k (p.bind.bind.imp fun d B1 H1 s1 p1 v hv => ?_)⟩
  cases d with
  | int n =>
    cases hv
    obtain ⟨ds, e, q⟩ := rg_post s1.bh p1
    obtain ⟨h1, h2⟩ := rg_rep (K := X.K) (B := B1) e
    exact ⟨n, rfl, h2, fun l hl => q _ _ (Stp.new s1.bh hl) _ (.tup (.inl (.inl upd_same)) (h1.mono (Le.new (s1.bh.back hl))))⟩
  | none => exact p1.elim
  | bool _ => exact p1.elim
  | str _ => exact p1.elim
  | list _ => exact p1.elim
  | tuple _ => exact p1.elim
  | dict _ => exact p1.elim

/-! ### str(i), int(x) -/
def strD : Da → R Da
  | .int i => if i.natAbs < 2 ^ 64 then .ok (.str (toString i)) else .no
  | _ => .no
def intD : Da → R Da
  | .int i => .ok (.int i)
  | .bool b => .ok (.int (if b then 1 else 0))
  | .str a => if a.length ≤ 640 then (match PySem.intText? a with | some n => .ok (.int n) | none => .no) else .no
  | _ => .no
theorem c_str : CallR X (.type "str") (rDc X.K (d1 strD)) := call1 fun pins s σ B H x d0 d us Q I r b h1 e q => by
  cases d0 with
  | int i =>
    have e : (if i.natAbs < 2 ^ 64 then R.ok (PyData.str (toString i)) else .no) = .ok d := e
    by_cases c : i.natAbs < 2 ^ 64
    · rw [if_pos c] at e
      cases e
      refine call_str_int pins s σ H _ us Q I r ⟨i, by rw [h1.int], ?_, q B H _ (Stp.refl b) (.str _)⟩
      by_cases hz : i.natAbs = 0
      · rw [hz]; decide
      · have := (Nat.log2_lt hz).mpr c
        omega
    · rw [if_neg c] at e
      cases e
  | none => cases e
  | bool _ => cases e
  | str _ => cases e
  | list _ => cases e
  | tuple _ => cases e
  | dict _ => cases e
theorem c_int : CallR X (.type "int") (rDc X.K (d1 intD)) := call1 fun pins s σ B H x d0 d us Q I r b h1 e q => by
  cases d0 with
  | int i =>
    cases e
    exact call_int1 pins s σ H _ us Q I r (.inl ⟨i, by rw [h1.int], q B H _ (Stp.refl b) (.int _)⟩)
  | bool i =>
    cases e
    exact call_int1 pins s σ H _ us Q I r (.inr ⟨i, by rw [h1.bool], q B H _ (Stp.refl b) (.int _)⟩)
  | str a =>
    have e : (if a.length ≤ 640 then (match PySem.intText? a with | some n => R.ok (PyData.int n) | none => .no) else .no) = .ok d := e
    by_cases c : a.length ≤ 640
    · rw [if_pos c] at e
      cases hn : PySem.intText? a with
      | none => rw [hn] at e; cases e
      | some n =>
        rw [hn] at e
        cases e
        exact call_int_str pins s σ H _ us Q I r ⟨a, n, by rw [h1.str], hn, c, q B H _ (Stp.refl b) (.int _)⟩
    · rw [if_neg c] at e
      cases e
  | none => cases e
  | list _ => cases e
  | tuple _ => cases e
  | dict _ => cases e

/-! ### a text's methods -/
def rMd (K : PySem.W.Frag) (g : Str → List Da → R Da) : V → List V → Hp → VK → Prop := fun x xs H Q => ∃ B z ds d, Le B H ∧ x = .str z ∧ RrAll K B H xs ds ∧ g z ds = .ok d ∧ ∀ B' H' v, Stp B H B' H' → Rep K B' v d → Q v H'
def eMs (g : Str → List Da → R Da) (f : Env → R Da) (fs : Env → R (List Da)) : Env → R Da := fun r => (f r).bind fun d => match d with
  | .str z => (fs r).bind fun ds => (g z ds).calm
  | _ => .no
theorem de_strM {name : Str} {id : String} {g : Str → List Da → R Da} {o e : Expr} {es : List Expr} {f : Env → R Da} {fs : Env → R (List Da)} {apos cpos : Pos} (slot : Slot "str" name id) (hty : typeOf (.builtin id) = pure (.type "method_descriptor")) (hm : MtR X id (rMd X.K g)) (ho : DE cls X W o f) (ha : DB cls X W (e :: es) fs)
    (hbase : attributeBase o name X.env (eval o X.env) = eval o X.env := by rfl)
    (hfew : ((backTo cpos (starEach (e :: es) X.env)).all (fun x => !x.1) && (backToKw cpos (keywordEach [] X.env)).all (fun x => x.1.isSome)
      && decide ((e :: es).length + ([] : List Keyword).length + (if ([] : List Keyword).isEmpty then 0 else 1) < 30)) = true := by rfl)
    (hline : (apos.endLine == cpos.line) = true := by rfl) (hs : starEach (e :: es) X.env = (false, eval e X.env) :: starEach es X.env := by rfl) (hplain : (backTo cpos (starEach es X.env)).any (·.1) = false := by rfl) :
    DE cls X W (.Call (.Attribute o name apos) (e :: es) [] cpos) (eMs g f fs) := by
  obtain ⟨t, pt, h⟩ := ho.run
  obtain ⟨u, pu, h'⟩ := ha.run
  refine ⟨_, pe_bm PySem.F.plainAttrs_str slot hty hm pt pu hbase hfew hline hs hplain, fun F B H σ r Q k p => h F B H σ r _ k (p.bind.imp fun d B1 H1 s1 p1 v hv => ?_)⟩
  cases d with
  | str z =>
    cases hv
    refine ⟨rfl, h' F B1 H1 σ r _ (k.stp s1) (p1.bind.imp fun ds B2 H2 s2 p2 vs hvs => ?_)⟩
    obtain ⟨d', e', q⟩ := p2.calm
    exact ⟨B2, z, ds, d', s2.bh, rfl, hvs, e', fun B' H' v s hv => q B' H' s v hv⟩
  | none => exact p1.elim
  | bool _ => exact p1.elim
  | int _ => exact p1.elim
  | list _ => exact p1.elim
  | tuple _ => exact p1.elim
  | dict _ => exact p1.elim
def strsD : List Da → Option (List Str)
  | [] => some []
  | .str i :: ds => (strsD ds).map (i :: ·)
  | _ => none
theorem strsD_eq : ∀ {ds : List Da} {ns : List Str}, strsD ds = some ns → ds = ns.map PyData.str
  | [], ns, e => by cases e; rfl
  | .str i :: ds, ns, e => by
    have e : (strsD ds).map (i :: ·) = some ns := e
    cases q : strsD ds with
    | none => rw [q] at e; cases e
    | some ms =>
      rw [q] at e
      cases e
      rw [strsD_eq q]
      rfl
  | .none :: _, _, e => by cases e
  | .bool _ :: _, _, e => by cases e
  | .int _ :: _, _, e => by cases e
  | .list _ :: _, _, e => by cases e
  | .tuple _ :: _, _, e => by cases e
  | .dict _ :: _, _, e => by cases e
def joinS (z : Str) (ys : List Str) : R Da := if (ys.map (·.length)).sum + ys.length * z.length ≤ 100000 then .ok (.str (Txt.join z ys)) else .no
def joinL (z : Str) (ds : List Da) : R Da := match strsD ds with
  | some ys => joinS z ys
  | none => .no
def joinD (z : Str) : List Da → R Da
  | [.list ds] => joinL z ds
  | [.tuple ds] => joinL z ds
  | _ => .no
theorem joinL_inv {z : Str} {ds : List Da} {d : Da} (e : joinL z ds = .ok d) : ∃ ys : List Str, ds = ys.map PyData.str ∧ (ys.map (·.length)).sum + ys.length * z.length ≤ 16777216 ∧ d = .str (Txt.join z ys) := by
  unfold joinL at e
  cases q : strsD ds with
  | none => rw [q] at e; cases e
  | some ys =>
    rw [q] at e
    have e : (if (ys.map (·.length)).sum + ys.length * z.length ≤ 100000 then R.ok (PyData.str (Txt.join z ys)) else .no) = .ok d := e
    by_cases c : (ys.map (·.length)).sum + ys.length * z.length ≤ 100000
    · rw [if_pos c] at e
      cases e
      exact ⟨ys, strsD_eq q, by omega, rfl⟩
    · rw [if_neg c] at e
      cases e
theorem m_join : MtR X "str.join" (rMd X.K joinD) := by
  intro pins s σ H x xs v us Q I rx rs ⟨B, z, ds, d, b, ex, hr, e, q⟩
  cases hr with
  | nil => cases e
  | cons h1 hr =>
    cases hr with
    | cons _ _ => unfold joinD at e; split at e <;> simp_all
    | nil =>
      rename_i y dy
      cases dy with
      | list es =>
        obtain ⟨ys, e1, e2, e3⟩ := joinL_inv (show joinL z es = .ok d from e)
        subst e1 e3
        obtain ⟨p, zs, rfl, h2, h3⟩ := h1.list b
        rw [h3.strs] at h2
        exact mt_join pins s σ H x _ v us Q I rx rs ⟨z, p, ys, ex, rfl, .inl h2, e2, q B H _ (Stp.refl b) (.str _)⟩
      | tuple es =>
        obtain ⟨ys, e1, e2, e3⟩ := joinL_inv (show joinL z es = .ok d from e)
        subst e1 e3
        obtain ⟨p, zs, rfl, h2, _, h3⟩ := h1.tuple b
        rw [h3.strs] at h2
        exact mt_join pins s σ H x _ v us Q I rx rs ⟨z, p, ys, ex, rfl, .inr h2, e2, q B H _ (Stp.refl b) (.str _)⟩
      | none => cases e
      | bool _ => cases e
      | int _ => cases e
      | str _ => cases e
      | dict _ => cases e
/-- one text as the argument -/
def s1D (g : Str → Str → R Da) (z : Str) : List Da → R Da
  | [.str y] => g z y
  | _ => .no
theorem mtS {id : String} {g : Str → Str → R Da} (h : ∀ (pins : List (Addr × Obj)) (s : Shared) (σ : L2.St) (B H : Hp) (z y : Str) (v : Value) (us : List Value) (d : Da) (Q : VK), Inv X pins σ H s → RelV (.str z) v → Vals [.str y] us → Le B H → g z y = .ok d → (∀ B' H' v, Stp B H B' H' → Rep X.K B' v d → Q v H') →
    wpAny (model X.prog X.w) X.A (call (.builtin id) (v :: us)) (EP X pins σ Q) X.xe s) : MtR X id (rMd X.K (s1D g)) := by
  intro pins s σ H x xs v us Q I rx rs ⟨B, z, ds, d, b, ex, hr, e, q⟩
  cases hr with
  | nil => cases e
  | cons h1 hr =>
    cases hr with
    | cons _ _ => unfold s1D at e; split at e <;> simp_all
    | nil =>
      rename_i y dy
      cases dy with
      | str w =>
        subst ex
        rw [h1.str] at rs
        exact h pins s σ B H z w v us d Q I rx rs b e q
      | none => cases e
      | bool _ => cases e
      | int _ => cases e
      | list _ => cases e
      | tuple _ => cases e
      | dict _ => cases e
def splitS (z y : Str) : R Da := if y.length ≠ 0 ∧ z.length ≤ 100000 then .ok (.list ((Txt.split z y).map PyData.str)) else .no
theorem m_split : MtR X "str.split" (rMd X.K (s1D splitS)) := mtS fun pins s σ B H z y v us d Q I rx rs b e q => by
  unfold splitS at e
  by_cases c : y.length ≠ 0 ∧ z.length ≤ 100000
  · rw [if_pos c] at e
    cases e
    have hl : z.length + 2 ≤ sizeLine := sz2 c.2
    refine mt_split pins s σ H _ _ v us Q I rx rs ⟨z, y, rfl, rfl, beq_eq_false_iff_ne.mpr c.1, hl, fun p np => q _ _ _ (Stp.new b np) (.lst (.inl (.inl upd_same)) (repStrs _))⟩
  · rw [if_neg c] at e
    cases e
where sz2 {n : Nat} (h : n ≤ 100000) : n + 2 ≤ sizeLine := Nat.le_trans (Nat.add_le_add_right h 2) (by decide)
def countS (z y : Str) : R Da := .ok (.int (Txt.count z y))
theorem m_count : MtR X "str.count" (rMd X.K (s1D countS)) := mtS fun pins s σ B H z y v us d Q I rx rs b e q => by
  cases e
  exact mt_count pins s σ H _ _ v us Q I rx rs ⟨z, y, rfl, rfl, q B H _ (Stp.refl b) (.int _)⟩
def findS (z y : Str) : R Da := .ok (.int (Txt.find z y))
theorem m_find : MtR X "str.find" (rMd X.K (s1D findS)) := mtS fun pins s σ B H z y v us d Q I rx rs b e q => by
  cases e
  exact mt_find pins s σ H _ _ v us Q I rx rs ⟨z, y, rfl, rfl, q B H _ (Stp.refl b) (.int _)⟩
def indexS (z y : Str) : R Da := match Txt.index0 z y with
  | some k => .ok (.int (k : Nat))
  | none => .no
theorem m_index : MtR X "str.index" (rMd X.K (s1D indexS)) := mtS fun pins s σ B H z y v us d Q I rx rs b e q => by
  unfold indexS at e
  cases c : Txt.index0 z y with
  | none => rw [c] at e; cases e
  | some k =>
    rw [c] at e
    cases e
    obtain ⟨t, rfl⟩ := rx
    obtain ⟨u, rfl, t2, rfl⟩ := vals1 rs
    unfold Txt.index0 at c
    cases c2 : Builtin.Str.occurrences z y 0 z.length 1 with
    | nil => rw [c2] at c; cases c
    | cons k' rest =>
      rw [c2] at c
      cases c
      exact PySem.SC.index c2 ⟨.int (k : Nat), H, I.tok _, ⟨_, rfl⟩, q B H _ (Stp.refl b) (.int _)⟩

/-! ### in, not in -/
def inSeq (x : Da) (ds : List Da) : R Bool := if shD 7 x && ds.all (shD 7) then .ok (ds.any fun z => PyData.eqv z x) else .no
def inD : Da → Da → R Bool
  | .str x, .str z => match x.cps.toList with
    | [c] => .ok (decide (c ∈ z.cps.toList))
    | _ => .no
  | x, .list ds => inSeq x ds
  | x, .tuple ds => inSeq x ds
  | _, _ => .no
def dIn (x y : Da) : R Da := (inD x y).bind fun b => .ok (.bool b)
def dNotIn (x y : Da) : R Da := (inD x y).bind fun b => .ok (.bool (!b))
theorem one_sign {x : Str} {c : Nat} (h : x.cps.toList = [c]) : x = ⟨#[c]⟩ := by
  cases x with
  | mk a =>
    have h : a.toList = [c] := h
    have : a = #[c] := by
      apply Array.toList_inj.mp
      rw [h]
    rw [this]
theorem inSeq_inv {x : Da} {ds : List Da} {b : Bool} (e : inSeq x ds = .ok b) : shD 7 x = true ∧ ds.all (shD 7) = true ∧ b = ds.any fun z => PyData.eqv z x := by
  unfold inSeq at e
  by_cases c : (shD 7 x && ds.all (shD 7)) = true
  · rw [if_pos c] at e
    rw [Bool.and_eq_true] at c
    cases e
    exact ⟨c.1, c.2, rfl⟩
  · rw [if_neg c] at e
    cases e
theorem shaped7 {d : Da} (h : shD 7 d = true) : SeqAt.shaped d = true := by
  obtain ⟨a, b⟩ := shD_all 7 d h
  show (d.canLay0 && decide (d.depth ≤ 64)) = true
  rw [a, decide_eq_true (by omega : d.depth ≤ 64)]
  rfl
theorem in_run {pins : List (Addr × Obj)} {s : Shared} {σ : L2.St} {B H : Hp} {x y : V} {v u : Value} {dx dy : Da} {bb : Bool} {Q : VK} {k : Nat} (hr : Room k X.A) (I : Inv X pins σ H s) (rx : RelV x v) (ry : RelV y u) (b : Le B H) (hx : Rr X.K B H x dx) (hy : Rr X.K B H y dy) (e : inD dx dy = .ok bb) :
    (Q (.bl bb) H → wpAny (model X.prog X.w) X.A (compareOp .In v u) (EP X pins σ Q) X.xe s) ∧ (Q (.bl (!bb)) H → wpAny (model X.prog X.w) X.A (compareOp .NotIn v u) (EP X pins σ Q) X.xe s) := by
  have seq : ∀ ds, inSeq dx ds = .ok bb → (dy = .list ds ∨ dy = .tuple ds) → (Q (.bl bb) H → wpAny (model X.prog X.w) X.A (compareOp .In v u) (EP X pins σ Q) X.xe s) ∧ (Q (.bl (!bb)) H → wpAny (model X.prog X.w) X.A (compareOp .NotIn v u) (EP X pins σ Q) X.xe s) := by
    intro ds e hd
    obtain ⟨c1, c2, c3⟩ := inSeq_inv e
    have s8 : shD 8 dy = true := by
      rcases hd with rfl | rfl
      · exact c2
      · exact c2
    have hu : X.A.units + 65 < cLine := by
      have := hr.un
      omega
    obtain ⟨as, r1⟩ := Dp.reads I dx x v (hx.dp b (shD_all 7 _ c1).1) rx
    obtain ⟨bs, r2⟩ := Dp.reads I dy y u (hy.dp b (shD_all 8 _ s8).1) ry
    subst c3
    rcases hd with rfl | rfl
    · exact ⟨fun q => SeqAt.in_list_reads r2 r1 (SeqAt.canLay_of_shaped (shaped_of s8)) (SeqAt.canLay_of_shaped (shaped7 c1)) (room_in_shaped (shaped7 c1) hu) ⟨.bl _, H, I, rfl, q⟩,
        fun q => SeqAt.notIn_list_reads r2 r1 (SeqAt.canLay_of_shaped (shaped_of s8)) (SeqAt.canLay_of_shaped (shaped7 c1)) (room_in_shaped (shaped7 c1) hu) ⟨.bl _, H, I, rfl, q⟩⟩
    · exact ⟨fun q => SeqAt.in_tuple_reads r2 r1 (SeqAt.canLay_of_shaped (shaped_of s8)) (SeqAt.canLay_of_shaped (shaped7 c1)) (room_in_shaped (shaped7 c1) hu) ⟨.bl _, H, I, rfl, q⟩,
        fun q => SeqAt.notIn_tuple_reads r2 r1 (SeqAt.canLay_of_shaped (shaped_of s8)) (SeqAt.canLay_of_shaped (shaped7 c1)) (room_in_shaped (shaped7 c1) hu) ⟨.bl _, H, I, rfl, q⟩⟩
  cases dy with
  | list ds => exact seq ds (by cases dx <;> exact e) (.inl rfl)
  | tuple ds => exact seq ds (by cases dx <;> exact e) (.inr rfl)
  | str z =>
    cases dx with
    | str i =>
      have e : (match i.cps.toList with | [c] => R.ok (decide (c ∈ z.cps.toList)) | _ => .no) = .ok bb := e
      split at e
      · rename_i c hc
        cases e
        have hi := one_sign hc
        subst hi
        exact ⟨fun q => op_in_sign pins s σ H x y v u Q I rx ry ⟨c, z, hx.str, hy.str, q⟩, fun q => op_notIn_sign pins s σ H x y v u Q I rx ry ⟨c, z, hx.str, hy.str, q⟩⟩
      · cases e
    | none => cases e
    | bool _ => cases e
    | int _ => cases e
    | list _ => cases e
    | tuple _ => cases e
    | dict _ => cases e
  | none => cases dx <;> cases e
  | bool _ => cases dx <;> cases e
  | int _ => cases dx <;> cases e
  | dict _ => cases dx <;> cases e
theorem o_in {k : Nat} (hr : Room k X.A) : OpR X (compareOp .In) (rD X.K dIn) :=
  opD fun pins s σ B H x y v u dx dy d Q I rx ry b hx hy e q => by
    unfold dIn at e
    cases c : inD dx dy with
    | ok bb =>
      rw [c] at e
      cases e
      exact (in_run hr I rx ry b hx hy c).1 (q B H _ (Stp.refl b) (.bl _))
    | er _ => rw [c] at e; cases e
    | no => rw [c] at e; cases e
theorem o_notIn {k : Nat} (hr : Room k X.A) : OpR X (compareOp .NotIn) (rD X.K dNotIn) :=
  opD fun pins s σ B H x y v u dx dy d Q I rx ry b hx hy e q => by
    unfold dNotIn at e
    cases c : inD dx dy with
    | ok bb =>
      rw [c] at e
      cases e
      exact (in_run hr I rx ry b hx hy c).2 (q B H _ (Stp.refl b) (.bl _))
    | er _ => rw [c] at e; cases e
    | no => rw [c] at e; cases e
end
end Mi

/-! MiC: len(set(x)), not, list * n, text * n, max, min, sum, extend, pop. -/
namespace Mi
open PySem PySem.Spec PyProof.Rows L2

/-! ### how many unlike ones -/
def ddI : List Int → List Int
  | [] => []
  | x :: xs => if x ∈ xs then ddI xs else x :: ddI xs
theorem ddI_mem {y : Int} : ∀ {l : List Int}, y ∈ ddI l ↔ y ∈ l
  | [] => Iff.rfl
  | x :: l => by
    unfold ddI
    by_cases h : x ∈ l
    · rw [if_pos h, ddI_mem (l := l), List.mem_cons]
      constructor
      · exact .inr
      · rintro (rfl | q)
        · exact h
        · exact q
    · rw [if_neg h, List.mem_cons, List.mem_cons, ddI_mem (l := l)]
theorem ddI_nodup : ∀ l : List Int, (ddI l).Nodup
  | [] => List.nodup_nil
  | x :: l => by
    unfold ddI
    by_cases h : x ∈ l
    · rw [if_pos h]
      exact ddI_nodup l
    · rw [if_neg h]
      exact List.nodup_cons.mpr ⟨fun q => h (ddI_mem.mp q), ddI_nodup l⟩
theorem nodup_le : ∀ {l m : List Int}, l.Nodup → (∀ x ∈ l, x ∈ m) → l.length ≤ m.length
  | [], _, _, _ => Nat.zero_le _
  | x :: l, m, h, s => by
    obtain ⟨h1, h2⟩ := List.nodup_cons.mp h
    have hx := s x List.mem_cons_self
    have q := nodup_le (l := l) (m := m.erase x) h2 fun y hy => (List.mem_erase_of_ne (fun e => h1 (by rw [← e]; exact hy))).mpr (s y (List.mem_cons_of_mem _ hy))
    have e := List.length_erase_of_mem hx
    have : 0 < m.length := List.length_pos_of_mem hx
    rw [List.length_cons]
    omega
section
variable {cls : String → Value} {X : Cx} {W : WX}
theorem cr_setI (hc : X.calm = true) : CallR X (.type "set") (fun xs H Q => ∃ p ns, xs = [.ref p] ∧ SqT X.K H p (ns.map V.int) ∧ ns.length ≤ 1000 ∧ ∀ a, H a = none → Q (.ref a) (upd H a (SetO X.w a (fun j => decide (j ∈ ns)) (ddI ns).length))) := by
  intro pins s σ H xs us Q I r ⟨p, ns, e, hs, hl, q⟩
  subst e
  rw [Vals.ref1 r]
  obtain ⟨its, o, n, rv, ho, hcl, hd, hz⟩ := SqT.at I hs
  have hi := rv.ints
  refine call_set_tupI (items := its.toArray) ns (I.ok.hd hc) ⟨o, ho, hcl, n, hd⟩ (by rw [List.toList_toArray]; exact hi) (Nat.lt_of_le_of_lt (Nat.add_le_add_right hl 1) (by decide)) fun h' tk c R hle kp => ?_
  have ec : c = (ddI ns).length := by
    obtain ⟨o, es, ep, t, _, _, _, g, nd, hm, _, _, hn, _⟩ := R
    have hk : (es.toList.map keyOf).length = c := by rw [List.length_map, Array.length_toList, hn]
    rw [← hk]
    refine Nat.le_antisymm (nodup_le nd fun x hx => ddI_mem.mpr ?_) (nodup_le (ddI_nodup ns) fun x hx => (hm x).mp ?_)
    · exact of_decide_eq_true ((hm x).mpr hx)
    · exact decide_eq_true (ddI_mem.mp hx)
  subst ec
  exact ⟨.ref _, _, I.laid (t' := tk) kp (Nat.le_refl _) (setO_new R), rfl, q _ (I.hok.fresh (Nat.le_refl _))⟩
theorem cr_lenSet : CallR X (.builtin "len") (fun xs H Q => ∃ a S n, xs = [.ref a] ∧ H a = some (SetO X.w a S n) ∧ Q (.int (n : Nat)) H) := by
  intro pins s σ H xs us Q I r ⟨a, S, n, e, ha, q⟩
  subst e
  rw [Vals.ref1 r]
  obtain ⟨o, es, ep, t, ho, hx, hd, g, nd, hm, hb, hf, hn, _⟩ := setO_get I ha
  have : scanBound < 2 ^ 63 := by decide
  refine PySem.call_len_set ho hx hd hf (by omega) ⟨.int (n : Nat), H, I.tok _, ⟨s.toks + 1, by rw [hn]⟩, q⟩
def lsD : Da → R Da
  | .tuple ds => match intsD ds with
    | some ns => if ns.length ≤ 1000 then .ok (.int ((ddI ns).length : Nat)) else .no
    | none => .no
  | _ => .no
def eLs (f : Env → R Da) : Env → R Da := fun r => (f r).bind lsD
theorem de_lenSet {e : Expr} {f : Env → R Da} {p p2 pos pos2 : Pos} (hm : X.mg "len" = none) (hm2 : X.mg "set" = none) (ha : DR cls X W e f) (hc : X.calm = true := by rfl) (hg : Gl X "len" := by rfl) (hg2 : Gl X "set" := by rfl) (he : starEach [e] X.env = (false, eval e X.env) :: starEach [] X.env := by rfl)
    (he2 : starEach [.Call (.Name "set" p2) [e] [] pos2] X.env = (false, eval (.Call (.Name "set" p2) [e] [] pos2) X.env) :: starEach [] X.env := by rfl) : DE cls X W (.Call (.Name "len" p) [.Call (.Name "set" p2) [e] [] pos2] [] pos) (eLs f) := by
  obtain ⟨t, pt, h⟩ := ha.run
  refine ⟨_, pe_callB cr_lenSet hg hm (by decide +kernel) (pa_cons (pe_callTy (cr_setI hc) hg2 hm2 (by decide +kernel) (pa_cons pt pa_nil he) (by decide) (by decide) he rfl) pa_nil he2) (by decide) (by decide) he2 rfl, fun F B H σ r Q k p => h F B H σ r _ k (p.bind.imp fun d B1 H1 s1 p1 v hv => ?_)⟩
  cases d with
  | tuple ds =>
    have p1 : Pw cls B1 H1 σ W (WfE X.K Q) (match intsD ds with | some ns => if ns.length ≤ 1000 then .ok (.int ((ddI ns).length : Nat)) else .no | none => .no) := p1
    cases c : intsD ds with
    | none => rw [c] at p1; exact p1.elim
    | some ns =>
      rw [c] at p1
      have p3 : Pw cls B1 H1 σ W (WfE X.K Q) (if ns.length ≤ 1000 then .ok (.int ((ddI ns).length : Nat)) else .no) := p1
      by_cases c2 : ns.length ≤ 1000
      · rw [if_pos c2] at p3
        obtain ⟨a, xs, rfl, h1, _, h2⟩ := hv.tuple s1.bh
        rw [intsD_eq c] at h2
        rw [h2.ints] at h1
        exact ⟨a, ns, rfl, h1, c2, fun b hb => ⟨b, _, _, rfl, upd_same, p3 B1 _ (Stp.drop s1.bh hb) _ (.int _)⟩⟩
      · rw [if_neg c2] at p3
        exact p3.elim
  | none => exact p1.elim
  | bool _ => exact p1.elim
  | int _ => exact p1.elim
  | str _ => exact p1.elim
  | list _ => exact p1.elim
  | dict _ => exact p1.elim

/-! ### not -/
def eNt (f : Env → R Da) : Env → R Da := fun r => (f r).bind fun d => (truthD d).bind fun b => .ok (.bool (!b))
theorem de_not {a : Expr} {f : Env → R Da} {pos : Pos} (ha : DR cls X W a f) : DE cls X W (.UnaryOp .Not a pos) (eNt f) := by
  obtain ⟨t, pt, h⟩ := ha.run
  refine ⟨_, pe_notT pt, fun F B H σ r Q k p => h F B H σ r _ k (p.bind.imp fun d B1 H1 s1 p1 v hv => ?_)⟩
  cases e : truthD d with
  | ok b =>
    rw [e] at p1
    exact ⟨b, truth_ok s1.bh hv e, p1 B1 H1 (Stp.refl s1.bh) _ (.bl _)⟩
  | er c => exact (truth_no d c e).elim
  | no =>
    rw [e] at p1
    exact p1.elim

/-! ### a new list times a number -/
def repD : Da → Da → R Da
  | .list ds, .int k => if k ≤ 100000 ∧ -100000 ≤ k ∧ ds.length * k.toNat ≤ 100000 then .ok (.list (List.replicate k.toNat ds).flatten) else .no
  | _, _ => .no
def eRep (f g : Env → R Da) : Env → R Da := fun r => (f r).bind fun x => (g r).bind fun y => repD x y
theorem rep_flat {K : PySem.W.Frag} {B : Hp} {xs : List V} {ds : List Da} (h : RepAll K B xs ds) : ∀ n : Nat, RepAll K B (List.replicate n xs).flatten (List.replicate n ds).flatten
  | 0 => .nil
  | n + 1 => by
    rw [List.replicate_succ, List.replicate_succ, List.flatten_cons, List.flatten_cons]
    exact h.append (rep_flat h n)
theorem df_rep {a b : Expr} {f g : Env → R Da} {pos : Pos} (ha : DF cls X W a f) (hb : DE cls X W b g) : DF cls X W (.BinOp a .Mult b pos) (eRep f g) := by
  obtain ⟨ta, pa, ha⟩ := ha.run
  obtain ⟨tb, pb, hb⟩ := hb.run
  refine ⟨_, pe_op op_rep pa pb, fun F B H σ r Q k p => ha F B H σ r _ k (p.bind.imp fun d B1 H1 s1 p1 a na ba oa => hb F B1 H1 σ r _ (k.stp s1) (p1.bind.imp fun e B2 H2 s2 p2 v hv => ?_))⟩
  cases d with
  | list ds =>
    cases e with
    | int m =>
      cases hv
      have p2 : Pw cls B2 H2 σ W (WfF X.K H Q) (if m ≤ 100000 ∧ -100000 ≤ m ∧ ds.length * m.toNat ≤ 100000 then .ok (.list (List.replicate m.toNat ds).flatten) else .no) := p2
      by_cases c : m ≤ 100000 ∧ -100000 ≤ m ∧ ds.length * m.toNat ≤ 100000
      · rw [if_pos c] at p2
        obtain ⟨xs, h1, h2⟩ := oa
        refine ⟨a, m, xs, rfl, rfl, s2.hh _ _ h1, by omega, by omega, by rw [h2.length]; exact sz c.2.2, fun l hl => ?_⟩
        exact p2 B2 _ (Stp.drop s2.bh hl) l (s1.hh.back (s2.hh.back hl)) (s2.bh.back hl) ⟨_, upd_same, rep_flat (h2.mono s2.gr.1) _⟩
      · rw [if_neg c] at p2
        exact p2.elim
    | none => exact p2.elim
    | bool _ => exact p2.elim
    | str _ => exact p2.elim
    | list _ => exact p2.elim
    | tuple _ => exact p2.elim
    | dict _ => exact p2.elim
  | none => exact p2.elim
  | bool _ => exact p2.elim
  | int _ => exact p2.elim
  | str _ => exact p2.elim
  | tuple _ => exact p2.elim
  | dict _ => exact p2.elim

/-! ### max, min, sum of a list of numbers -/
def maxI : List Int → Option Int
  | [] => none
  | x :: xs => match maxI xs with
    | none => some x
    | some m => some (if m ≤ x then x else m)
def minI : List Int → Option Int
  | [] => none
  | x :: xs => match minI xs with
    | none => some x
    | some m => some (if x ≤ m then x else m)
def sumI : List Int → Int
  | [] => 0
  | x :: xs => x + sumI xs
theorem sumI_eq : ∀ l : List Int, l.sum = sumI l
  | [] => rfl
  | x :: l => by rw [List.sum_cons, sumI_eq l]; rfl
theorem maxI_none : ∀ {l : List Int}, maxI l = none → l = []
  | [], _ => rfl
  | x :: l, h => by
    unfold maxI at h
    split at h <;> cases h
theorem minI_none : ∀ {l : List Int}, minI l = none → l = []
  | [], _ => rfl
  | x :: l, h => by
    unfold minI at h
    split at h <;> cases h
theorem maxI_is : ∀ {l : List Int} {m : Int}, maxI l = some m → m ∈ l ∧ ∀ y ∈ l, y ≤ m
  | [], _, h => by cases h
  | x :: l, m, h => by
    unfold maxI at h
    cases c : maxI l with
    | none =>
      rw [c] at h
      cases h
      rw [maxI_none c]
      exact ⟨List.mem_cons_self, fun y hy => by rcases List.mem_cons.mp hy with rfl | hy; exact Int.le_refl _; cases hy⟩
    | some k =>
      rw [c] at h
      obtain ⟨h1, h2⟩ := maxI_is c
      have h : some (if k ≤ x then x else k) = some m := h
      by_cases q : k ≤ x
      · rw [if_pos q] at h
        cases h
        exact ⟨List.mem_cons_self, fun y hy => by
          rcases List.mem_cons.mp hy with rfl | hy
          · exact Int.le_refl _
          · exact Int.le_trans (h2 y hy) q⟩
      · rw [if_neg q] at h
        cases h
        exact ⟨List.mem_cons_of_mem _ h1, fun y hy => by
          rcases List.mem_cons.mp hy with rfl | hy
          · omega
          · exact h2 y hy⟩
theorem minI_is : ∀ {l : List Int} {m : Int}, minI l = some m → m ∈ l ∧ ∀ y ∈ l, m ≤ y
  | [], _, h => by cases h
  | x :: l, m, h => by
    unfold minI at h
    cases c : minI l with
    | none =>
      rw [c] at h
      cases h
      rw [minI_none c]
      exact ⟨List.mem_cons_self, fun y hy => by rcases List.mem_cons.mp hy with rfl | hy; exact Int.le_refl _; cases hy⟩
    | some k =>
      rw [c] at h
      obtain ⟨h1, h2⟩ := minI_is c
      have h : some (if x ≤ k then x else k) = some m := h
      by_cases q : x ≤ k
      · rw [if_pos q] at h
        cases h
        exact ⟨List.mem_cons_self, fun y hy => by
          rcases List.mem_cons.mp hy with rfl | hy
          · exact Int.le_refl _
          · exact Int.le_trans q (h2 y hy)⟩
      · rw [if_neg q] at h
        cases h
        exact ⟨List.mem_cons_of_mem _ h1, fun y hy => by
          rcases List.mem_cons.mp hy with rfl | hy
          · omega
          · exact h2 y hy⟩
def li1 (g : List Int → Option Int) : Da → R Da
  | .list ds => match (intsD ds).bind g with
    | some n => .ok (.int n)
    | none => .no
  | _ => .no
theorem li1_inv {g : List Int → Option Int} {d0 d : Da} (e : li1 g d0 = .ok d) : ∃ ns n, d0 = .list (ns.map PyData.int) ∧ g ns = some n ∧ d = .int n := by
  cases d0 with
  | list ds =>
    have e : (match (intsD ds).bind g with | some n => R.ok (PyData.int n) | none => .no) = .ok d := e
    cases c : intsD ds with
    | none => rw [c] at e; cases e
    | some ns =>
      rw [c] at e
      have e : (match g ns with | some n => R.ok (PyData.int n) | none => .no) = .ok d := e
      cases c2 : g ns with
      | none => rw [c2] at e; cases e
      | some n =>
        rw [c2] at e
        cases e
        exact ⟨ns, n, by rw [intsD_eq c], c2, rfl⟩
  | none => cases e
  | bool _ => cases e
  | int _ => cases e
  | str _ => cases e
  | tuple _ => cases e
  | dict _ => cases e
theorem c_max (hc : X.calm = true) : CallR X (.builtin "max") (rDc X.K (d1 (li1 maxI))) := call1 fun pins s σ B H x d0 d us Q I r b h1 e q => by
  obtain ⟨ns, n, rfl, c, rfl⟩ := li1_inv e
  obtain ⟨p, xs, rfl, h2, h3⟩ := h1.list b
  rw [h3.ints] at h2
  obtain ⟨m1, m2⟩ := maxI_is c
  refine cr_max hc pins s σ H _ us Q I r ⟨p, ns, rfl, h2, List.length_pos_of_mem m1, fun m hm hy => ?_⟩
  have : m = n := Int.le_antisymm (m2 m hm) (hy n m1)
  subst this
  exact q B H _ (Stp.refl b) (.int _)
theorem c_min (hc : X.calm = true) : CallR X (.builtin "min") (rDc X.K (d1 (li1 minI))) := call1 fun pins s σ B H x d0 d us Q I r b h1 e q => by
  obtain ⟨ns, n, rfl, c, rfl⟩ := li1_inv e
  obtain ⟨p, xs, rfl, h2, h3⟩ := h1.list b
  rw [h3.ints] at h2
  obtain ⟨m1, m2⟩ := minI_is c
  refine cr_min hc pins s σ H _ us Q I r ⟨p, ns, rfl, h2, List.length_pos_of_mem m1, fun m hm hy => ?_⟩
  have : m = n := Int.le_antisymm (hy n m1) (m2 m hm)
  subst this
  exact q B H _ (Stp.refl b) (.int _)
theorem c_sum (hc : X.calm = true) : CallR X (.builtin "sum") (rDc X.K (d1 (li1 fun l => some (sumI l)))) := call1 fun pins s σ B H x d0 d us Q I r b h1 e q => by
  obtain ⟨ns, n, rfl, c, rfl⟩ := li1_inv e
  obtain ⟨p, xs, rfl, h2, h3⟩ := h1.list b
  rw [h3.ints] at h2
  refine cr_sum hc pins s σ H _ us Q I r ⟨p, ns, rfl, h2, ?_⟩
  rw [sumI_eq]
  cases c
  exact q B H _ (Stp.refl b) (.int _)

/-! ### x.extend(a new list), x.pop() -/
def sExt (i : Nat) (f : Env → R Da) : Env → SR := fun r => match r[i]? with
  | some (.ow (.list ds)) => bS r (f r) fun d => match d with
    | .list es => if ds.length + es.length ≤ 100000 then .nx (r.set i (.ow (.list (ds ++ es)))) else .no
    | _ => .no
  | _ => .no
theorem ds_ext (i : Nat) {x : Str} {e : Expr} {f : Env → R Da} {p apos cpos pos : Pos} (he : DF cls X W e f) (hN : X.N[i]? = some x := by rfl) (hv : Vis X.env.scope x := by first | exact Or.inl rfl | exact Or.inr (Or.inl rfl) | exact Or.inr (Or.inr rfl))
    (hd : (x == ("__debug__" : Str)) = false := by decide) (hcd : (x == ("__classdict__" : Str)) = false := by decide)
    (hsw : swapsWith (.Call (.Attribute (.Name x p) "extend" apos) [e] [] cpos) none pos.line X.env = pure false := by rfl)
    (hbase : attributeBase (.Name x p) "extend" X.env (eval (.Name x p) X.env) = eval (.Name x p) X.env := by rfl)
    (hfew : ((backTo cpos (starEach [e] X.env)).all (fun x => !x.1) && (backToKw cpos (keywordEach [] X.env)).all (fun x => x.1.isSome)
      && decide ([e].length + ([] : List Keyword).length + (if ([] : List Keyword).isEmpty then 0 else 1) < 30)) = true := by rfl)
    (hline : (apos.endLine == cpos.line) = true := by rfl) (hs : starEach [e] X.env = (false, eval e X.env) :: starEach [] X.env := by rfl) :
    DS cls X W (.Expr (.Call (.Attribute (.Name x p) "extend" apos) [e] [] cpos) pos) (sExt i f) := by
  obtain ⟨t, pt, h⟩ := he.run
  refine ⟨_, ps_expr (pe_bm PySem.F.plainAttrs_list PySem.F.slot_list_extend PySem.F.type_list_extend mt_extend (pe_var hN hv hd hcd) (pa_cons pt pa_nil hs) hbase hfew hline hs rfl) hsw, fun F B H σ r D k q => ?_⟩
  unfold sExt at q
  split at q
  · rename_i ds e0
    obtain ⟨a, h1, b1, b2, xs, b3, b4⟩ := k.sl i _ e0
    refine ⟨.ref a, h1, .inl ⟨rfl, xs, .inl (.inl b3)⟩, ?_⟩
    refine h F B H σ r _ k ((Ps.bS q k).imp fun d B' H' s q p np bp op => ?_)
    cases d with
    | list es =>
      obtain ⟨zs, z1, z2⟩ := op
      have q : Ps X.K cls F B' D W (if ds.length + es.length ≤ 100000 then .nx (r.set i (.ow (.list (ds ++ es)))) else .no) := q
      by_cases hl : ds.length + es.length ≤ 100000
      · rw [if_pos hl] at q
        have k' := k.stp s
        have hx := b4.length
        have hy := z2.length
        refine ⟨a, p, xs, zs, rfl, rfl, s.hh _ _ b3, z1, sz (by omega), q B' _ σ (Gr.refl _ _) ?_⟩
        refine k'.put e0 h1 ⟨xs ++ zs, upd_same, (b4.mono s.gr.1).append z2⟩
      · rw [if_neg hl] at q
        exact q.elim
    | none => exact q.elim
    | bool _ => exact q.elim
    | int _ => exact q.elim
    | str _ => exact q.elim
    | tuple _ => exact q.elim
    | dict _ => exact q.elim
  · exact q.elim
end
end Mi

/-! MiD: minus. -/
namespace Mi
open PySem PySem.Spec PyProof.Rows L2
/-- the law's own promise -/
structure DefX (cls : String → Value) (P : Program) (w : World) (K : PySem.W.Frag) (mg : Str → Option Value) (base : Heap) (x : Str) (st : Stmt) (k : Nat) (ps : List Str) (m : List Da → R Da) : Prop where
  ex : ∃ f fd, Fun K x x st f fd ∧ mg x = some (.ref f) ∧ FnOk P w K mg base (L2.CX P w) k f fd ps (spF K cls m)
theorem mkDefL {cls : String → Value} {P : Program} {w : World} {K : PySem.W.Frag} {mg : Str → Option Value} {base : Heap} {x : Str} {st : Stmt} {N ps : List Str} {k : Nat} {g : Env → SR} (R0 : Raw K mg x st) (S : FnScope N ps (defScope st))
    (hb : ∀ (kV doc pm : Value) (an : Option Addr) (cdv ct : Value) (us : List Value), us.length = ps.length → bindArgs (PySem.W.fnOf x x (defArgs st) (defBody st) (defScope st) .none kV doc pm an cdv ct) ⟨us, []⟩ = pure (ps.zip us))
    (body : ∀ (X : Cx) (E : XK) (f : Addr) (cdv : Value) (A : Around) (outer : List PySem.Env) (s : Shared) (H : Hp), X = cxOf (L2.CX P w) P w K mg base N x (defScope st) f cdv A outer s H E → Room k X.A → Takes X (fun c d _ H => E c d H) → PassesOwn (model X.prog X.w) X.A X.env X.xe →
      DSs cls X (fun c d _ H => E c d H) (defBody st) g) : DefX cls P w K mg base x st (k + 1) ps (fnD ps.length N.length g) := ⟨mkDefX R0 S hb body⟩
section
variable {cls : String → Value} {X : Cx} {W : WX}
/-! ### minus -/
def negD : Da → R Da
  | .int i => .ok (.int (-i))
  | _ => .no
def eNeg (f : Env → R Da) : Env → R Da := fun r => (f r).bind negD
theorem de_neg {a : Expr} {f : Env → R Da} {pos : Pos} (ha : DR cls X W a f) : DE cls X W (.UnaryOp .USub a pos) (eNeg f) := by
  obtain ⟨t, pt, h⟩ := ha.run
  refine ⟨_, pe_un un_neg pt, fun F B H σ r Q k p => h F B H σ r _ k (p.bind.imp fun d B1 H1 s1 p1 v hv => ?_)⟩
  cases d with
  | int i => exact ⟨i, hv.int, p1 B1 H1 (Stp.refl s1.bh) _ (.int _)⟩
  | none => exact p1.elim
  | bool _ => exact p1.elim
  | str _ => exact p1.elim
  | list _ => exact p1.elim
  | tuple _ => exact p1.elim
  | dict _ => exact p1.elim
end
end Mi

/-! MiE: try. -/
namespace Mi
open PySem PySem.Spec PyProof.Rows L2
/-- is an error of class c one of class x -/
def subJ (c x : String) : Bool := c == x || x == "JumpError"
def noEr : SR → SR
  | .er _ _ => .no
  | x => x
def hdF (c : String) (r : Env) : List (String × (Env → SR)) → SR
  | [] => .er c r
  | (x, g) :: hs => if subJ c x then noEr (g r) else hdF c r hs
def sTry (L : List String) (f : Env → SR) (hs : List (String × (Env → SR))) : Env → SR := fun r => match f r with
  | .er c r' => if c ∈ L then hdF c r' hs else .no
  | x => x
section
variable {cls : String → Value} {X : Cx} {W : WX}
/-- one reading for all contexts -/
def cSs (K : PySem.W.Frag) (cls : String → Value) (W : WX) (g : Env → SR) : TS := fun D σ H => ∃ F B r, Ok K F B H σ r ∧ Ps K cls F B D W (g r)
theorem DSs.pss {sts : List Stmt} {g : Env → SR} (h : DSs cls X W sts g) : PSs X sts (cSs X.K cls W g) := by
  obtain ⟨t, pt, h⟩ := h.run
  exact ⟨fun pins s σ H D I ⟨F, B, r, k, p⟩ => pt.run pins s σ H D I (h F B H σ r D k p)⟩
structure DHs (cls : String → Value) (X : Cx) (L : List String) (hds : List ExceptHandler) (hs : List (String × (Env → SR))) : Prop where
  run : ∃ l, HdsOk X hds l ∧ ∀ (F B H : Hp) (σ : L2.St) (r : Env) (D : Ends) (Wout : WX) (c : String), c ∈ L → Ok X.K F B H σ r → Ps X.K cls F B D Wout (hdF c r hs) → wMany X.K Wout D l (cls c) none σ H
theorem dhs_nil {L : List String} : DHs cls X L [] [] := ⟨[], .nil, fun F B H σ r D Wout c hc k p => p B H σ (Gr.refl _ _) k⟩
theorem Ps.noEr {K : PySem.W.Frag} {F B : Hp} {D : Ends} {W W' : WX} {x : SR} (p : Ps K cls F B D W (noEr x)) : Ps K cls F B D W' x := by
  cases x with
  | nx r => exact p
  | rt d => exact p
  | bk r => exact p
  | ct r => exact p
  | er c r => exact p.elim
  | no => exact p.elim
theorem dhs_cons {L : List String} {x : Str} {xn : String} {b₀ : Stmt} {suite : List Stmt} {np pos' : Pos} {hds : List ExceptHandler} {hs : List (String × (Env → SR))} {g : Env → SR} (hm : X.mg x = some (cls xn)) (hx : ∀ c ∈ L, PySem.W.exmOne X.K (cls c) (cls xn) = some (subJ c xn))
    (hg : ∀ (a : Addr) (oe : Obj) (pn : List (Addr × Obj)), DSs cls (X.suite a ((a, oe) :: pn)) (fun _ _ _ _ => False) (b₀ :: suite) g) (hr : DHs cls X L hds hs) (hgl : Gl X x := by rfl) (hdb : (x == ("__debug__" : Str)) = false := by decide) :
    DHs cls X L (.ExceptHandler (some (.Name x np)) none (b₀ :: suite) pos' :: hds) ((xn, g) :: hs) := by
  obtain ⟨l, ok, h⟩ := hr.run
  refine ⟨(cls xn, fun _ _ _ => cSs X.K cls (fun _ _ _ _ => False) g) :: l, .cons ⟨hgl, hdb, .inl hm⟩ (fun a oe clsv d pn _ _ => (hg a oe pn).pss) ok, fun F B H σ r D Wout c hc k p => ⟨subJ c xn, hx c hc, fun e a na => ?_, fun e => ?_⟩⟩
  · unfold hdF at p
    rw [if_pos e] at p
    exact ⟨F, B, r, k, Ps.noEr p⟩
  · unfold hdF at p
    rw [if_neg (by rw [e]; exact Bool.false_ne_true)] at p
    exact h F B H σ r D Wout c hc k p
theorem ds_try {L : List String} {body : List Stmt} {h₀ : ExceptHandler} {hds : List ExceptHandler} {f : Env → SR} {hs : List (String × (Env → SR))} {pos : Pos} (tk : Takes X W)
    (hb : ∀ (W : WX) (pn : List (Addr × Obj)) (xe : Value → Shared → Prop), Takes (X.tr pn xe) W → PassesOwn (model X.prog X.w) X.A X.env xe → DSs cls (X.tr pn xe) W body f) (hh : DHs cls X L (h₀ :: hds) hs)
    (hst : X.stack = X.env :: X.outer := by rfl) (hf : X.env.frame = some X.env.locals := by rfl) : DS cls X W (.Try body (h₀ :: hds) [] [] pos) (sTry L f hs) := by
  obtain ⟨l, ok, h⟩ := hh.run
  refine ⟨_, ps_try_many (tb := fun W => cSs X.K cls W f) hst hf tk (fun W pn xe tk hp => (hb W pn xe tk hp).pss) ok, fun F B H σ r D k p => ⟨F, B, r, k, ?_⟩⟩
  unfold sTry at p
  cases q : f r with
  | nx r' => rw [q] at p; exact p
  | rt d => rw [q] at p; exact p
  | bk r' => rw [q] at p; exact p
  | ct r' => rw [q] at p; exact p
  | no => rw [q] at p; exact p
  | er c r' =>
    rw [q] at p
    have p : Ps X.K cls F B D W (if c ∈ L then hdF c r' hs else .no) := p
    by_cases hc : c ∈ L
    · rw [if_pos hc] at p
      exact fun B' H' σ' gr k' => h F B' H' σ' r' D W c hc k' (Ps.gr p gr)
    · rw [if_neg hc] at p
      exact p.elim

/-! ### an expression that is never come to -/
def eNo : Env → R Da := fun _ => .no
theorem de_no {e : Expr} : DE cls X W e eNo := ⟨fun _ _ _ => False, ⟨fun _ _ _ _ _ _ h => h.elim⟩, fun F B H σ r Q k p => p.elim⟩

/-! ### list + list, a new one -/
def catD : Da → Da → R Da
  | .list xs, .list ys => if xs.length + ys.length ≤ 100000 then .ok (.list (xs ++ ys)) else .no
  | _, _ => .no
def eCat (f g : Env → R Da) : Env → R Da := fun r => (f r).bind fun x => (g r).bind fun y => catD x y
theorem op_catN {k : Nat} : OpR X (binaryOp .Add) (fun x y H Q => ∃ a b xs zs, x = .ref a ∧ y = .ref b ∧ SqL X.K H a xs ∧ SqL X.K H b zs ∧ xs.length + zs.length ≤ sizeLine ∧ ∀ p, H p = none → Q (.ref p) (upd H p (.lst (xs ++ zs)))) := by
  intro pins s σ H x y v u Q I rx ry ⟨a, b, xs, zs, ex, ey, ha, hb, hz, q⟩
  subst ex ey
  cases rx
  cases ry
  exact catL I ha hb hz q
theorem df_cat {a b : Expr} {f g : Env → R Da} {pos : Pos} (ha : DR cls X W a f) (hb : DR cls X W b g) : DF cls X W (.BinOp a .Add b pos) (eCat f g) := by
  obtain ⟨ta, pa, ha⟩ := ha.run
  obtain ⟨tb, pb, hb⟩ := hb.run
  refine ⟨_, pe_op (op_catN (k := 0)) pa pb, fun F B H σ r Q k p => ha F B H σ r _ k (p.bind.imp fun d B1 H1 s1 p1 v hv => hb F B1 H1 σ r _ (k.stp s1) (p1.bind.imp fun e B2 H2 s2 p2 w hw => ?_))⟩
  cases d with
  | list xs =>
    cases e with
    | list ys =>
      have p2 : Pw cls B2 H2 σ W (WfF X.K H Q) (if xs.length + ys.length ≤ 100000 then .ok (.list (xs ++ ys)) else .no) := p2
      by_cases c : xs.length + ys.length ≤ 100000
      · rw [if_pos c] at p2
        obtain ⟨a, vs, ea, h1, h2⟩ := (hv.stp s2).list s2.bh
        obtain ⟨b, ws, eb, h3, h4⟩ := hw.list s2.bh
        have l1 := h2.length
        have l2 := h4.length
        exact ⟨a, b, vs, ws, ea, eb, h1, h3, sz (by omega), fun l hl => p2 B2 _ (Stp.drop s2.bh hl) l (s1.hh.back (s2.hh.back hl)) (s2.bh.back hl) ⟨_, upd_same, h2.append h4⟩⟩
      · rw [if_neg c] at p2
        exact p2.elim
    | none => exact p2.elim
    | bool _ => exact p2.elim
    | int _ => exact p2.elim
    | str _ => exact p2.elim
    | tuple _ => exact p2.elim
    | dict _ => exact p2.elim
  | none => exact p2.elim
  | bool _ => exact p2.elim
  | int _ => exact p2.elim
  | str _ => exact p2.elim
  | tuple _ => exact p2.elim
  | dict _ => exact p2.elim
end
end Mi

/-! MiH: the law's own end; facts of the top. -/
namespace Mi
open PySem PySem.Spec PyProof.Rows L2

theorem raw_of {K : PySem.W.Frag} {mg : Str → Option Value} {x : Str} {st : Stmt} {f : Addr} {fd : FuncData} (F : FunD K x x (defArgs st) (defBody st) (defScope st) [] [] f fd) (h : mg x = some (.ref f)) : Raw K mg x st := by
  obtain ⟨oc, od, dV, kV, doc, pm, an, cdv, ct, osl, e, lk, hcd, hD, hK⟩ := F.ex
  rcases hD with ⟨_, rfl⟩ | ⟨q, _⟩
  · exact ⟨f, fd, ⟨⟨oc, od, kV, doc, pm, an, cdv, ct, osl, e, lk, hcd⟩, F.kp⟩, h⟩
  · exact absurd rfl q
/-- the classes by their names -/
def clsK (K : PySem.W.Frag) (c : String) : Value := .ref (He.ga K (Str.ofString c))
theorem exF_of {K : PySem.W.Frag} {h : Heap} {mg : Str → Option Value} {c : String} (X : K.In h) (G : h.Ns mainGlobals mg) (h1 : (He.Fa.glo (Str.ofString c)).ok K = true) (h2 : (He.Fa.exc (Str.ofString c)).ok K = true) : ExF K mg (clsK K) (Str.ofString c) c := by
  obtain ⟨a, b, d, e⟩ := He.exc_ok h2
  exact ⟨_, rfl, He.glo_ok X G h1, a, b, d, e⟩
theorem law_end {K : PySem.W.Frag} {cls : String → Value} {m : List Da → R Da} (hm : ∀ ns : List Int, ns.length ≤ 63 → m [.list (ns.map PyData.int)] = .ok (.bool true)) (H : Hp) (a : Addr) (ns : List Int) (hl : ns.length ≤ 63) (hS : SqL K H a (ns.map V.int)) :
    spF K cls m [.ref a] H (fun v _ => v = .bl true) (fun _ _ _ => False) := by
  refine ⟨H, [.list (ns.map PyData.int)], Le.refl H, .cons (.lst hS (repInts ns)) .nil, ?_⟩
  rw [hm ns hl]
  intro B' H' v s hv
  cases hv
  rfl
theorem walk_ofM {l : PySem.W.OpenLaw} {n k : Nat} {q : Program} {loose : List Str} {XP : (Str → Option Value) → Heap → Prop} {YP : World → Heap → Prop} {d : DefRec} {CX : World → CXT} {x : Str}
    (hn : l.most = some n) (hn2 : n ≤ sizeLine) (hdf : d.params.defaults = []) (hr : Room k callerA)
    (F : ∀ (w : World) (mg : Str → Option Value) (fa : Addr) (h : Heap), YP w h → h.Ns mainGlobals mg → mg d.name = some (.ref fa) →
      ∃ (K : PySem.W.Frag) (fd : FuncData) (sp : Sp), K.In h ∧ (∀ (s : Shared) (u : Value), BindsTo s fd ⟨[u], []⟩ [(x, u)]) ∧
        (∀ (H : Hp) (a : Addr) (ns : List Int), ns.length ≤ n → Only H → SqL K H a (ns.map V.int) → sp [.ref a] H (fun v _ => v = .bl true) fun _ _ _ => False) ∧
        ∀ base : Heap, K.In base → base.Ns mainGlobals mg → FnOk l.prog w K mg base (CX w) k fa fd [x] sp)
    (hCX : ∀ (w : World) (H : Hp) (s : Shared) (e : Value) (s' : Shared), CX w [] H s (fun _ _ _ => False) e s' → False) :
    PySem.W.WalkO q loose XP YP l.row.toRowW d [] (fun f vs => PySem.call f vs) := by
  refine Att.attach_call hn hdf fun w s₀ s₁ mg mb fa o pm cd doc a vs ns G Y ho hd hcd hmg hobj hints hlen hg => ?_
  obtain ⟨K, fd, sp, KX, hb, hsp, hF⟩ := F w mg fa _ Y G.T.g hmg
  exact law_call KX G.T.g G.T.b G.T.builtins G.T.nolimit hg hobj hints (Nat.le_trans hlen hn2) hr hF hb (fun H hO hS => hsp H a ns hlen hO hS) fun H e s' => hCX w H s₁ e s'
/-- the law's def, found by its name -/
theorem def_law {cls : String → Value} {P : Program} {w : World} {K : PySem.W.Frag} {mg : Str → Option Value} {st : Stmt} {f fa : Addr} {fd : FuncData} {x : Str} {k : Nat} {m : List Da → R Da} {y : Str} (F : FunD K x x (defArgs st) (defBody st) (defScope st) [] [] f fd) (hf : mg x = some (.ref f)) (hfa : mg x = some (.ref fa))
    (hb : ∀ (kV doc pm : Value) (an : Option Addr) (cdv ct : Value) (us : List Value), us.length = [y].length → bindArgs (PySem.W.fnOf x x (defArgs st) (defBody st) (defScope st) .none kV doc pm an cdv ct) ⟨us, []⟩ = pure ([y].zip us))
    (ok : ∀ base : Heap, ∃ f' fd', Fun K x x st f' fd' ∧ mg x = some (.ref f') ∧ FnOk P w K mg base (L2.CX P w) k f' fd' [y] (spF K cls m)) :
    ∃ fd : FuncData, (∀ (s : Shared) (u : Value), BindsTo s fd ⟨[u], []⟩ [(y, u)]) ∧ ∀ base : Heap, FnOk P w K mg base (L2.CX P w) k fa fd [y] (spF K cls m) := by
  have e1 : f = fa := by
    rw [hf] at hfa
    cases hfa
    rfl
  subst e1
  refine ⟨fd, fun s u => FunD.bindsA (ps := [y]) F hb s [u] rfl, fun base => ?_⟩
  obtain ⟨f', fd', F', h', o⟩ := ok base
  rw [hf] at h'
  cases h'
  obtain ⟨oc, od, dV, kV, doc, pm, an, cdv, ct, osl, e, lk, hcd, hD, hK⟩ := F.ex
  obtain ⟨oc2, od2, kV2, doc2, pm2, an2, cdv2, ct2, osl2, e2, lk2, hcd2⟩ := F'.ex
  rw [lk] at lk2
  cases lk2
  exact o
end Mi

/-! MiP: plain tools. -/
namespace Mi
open PySem PySem.Spec PyProof.Rows L2
def okD : R Da → Da
  | .ok d => d
  | _ => .none
theorem seq_nx {f g : Env → SR} {r r' : Env} {x : SR} (h : f r = .nx r') (h2 : g r' = x) : sSeq f g r = x := by
  unfold sSeq
  rw [h]
  exact h2
theorem seq_rt {f g : Env → SR} {r : Env} {d : Da} (h : f r = .rt d) : sSeq f g r = .rt d := by
  unfold sSeq
  rw [h]
theorem md (c : Int) (n : Nat) (h : 0 < n) : ∃ a : Nat, a < n ∧ c % (n : Int) = (a : Int) := by
  have h1 := Int.emod_nonneg c (b := (n : Int)) (by omega)
  have h2 := Int.emod_lt_of_pos c (b := (n : Int)) (by omega)
  exact ⟨(c % (n : Int)).toNat, by omega, by omega⟩
theorem call_ok {m : List Da → R Da} {fs : Env → R (List Da)} {r : Env} {ds : List Da} {d : Da} (h1 : fs r = .ok ds) (h2 : m ds = .ok d) : eCall m fs r = .ok d := by
  unfold eCall
  rw [h1]
  exact h2
theorem bin_ok {g : Da → Da → R Da} {fa fb : Env → R Da} {r : Env} {x y d : Da} (h1 : fa r = .ok x) (h2 : fb r = .ok y) (h3 : g x y = .ok d) : eBin g fa fb r = .ok d := by
  unfold eBin
  rw [h1]
  show (fb r).bind _ = _
  rw [h2]
  show (g x y).calm = _
  rw [h3]
  rfl
theorem cons_ok {f : Env → R Da} {g : Env → R (List Da)} {r : Env} {d : Da} {ds : List Da} (h1 : f r = .ok d) (h2 : g r = .ok ds) : aCons f g r = .ok (d :: ds) := by
  unfold aCons
  rw [h1]
  show (g r).bind _ = _
  rw [h2]
  rfl
theorem set_nx {i : Nat} {f : Env → R Da} {r : Env} {d : Da} (h : f r = .ok d) : sSet i f r = .nx (r.set i (.fz d)) := by
  unfold sSet
  rw [h]
  rfl
theorem mod_ok {i j : Int} (h : 0 < j) : dMod (.int i) (.int j) = .ok (.int (i % j)) := by
  show (if 0 < j then R.ok (PyData.int (i % j)) else .no) = _
  rw [if_pos h]
theorem mul_ok {i j : Int} (h : (-(2 ^ 64) < i ∧ i < 2 ^ 64) ∨ (-(2 ^ 64) < j ∧ j < 2 ^ 64)) : dMulI (.int i) (.int j) = .ok (.int (i * j)) := by
  show (if _ then R.ok (PyData.int (i * j)) else .no) = _
  rw [if_pos h]
theorem pow_ok {i j : Int} (h : 0 ≤ j ∧ j ≤ 1000000 ∧ i.natAbs < 2 ^ 64) : dPow (.int i) (.int j) = .ok (.int (i ^ j.toNat)) := by
  show (if _ then R.ok (PyData.int (i ^ j.toNat)) else .no) = _
  rw [if_pos h]
theorem fdiv_ok {i j : Int} (h : 0 < j ∧ j < 1073741824) : dFdiv (.int i) (.int j) = .ok (.int (i / j)) := by
  show (if _ then R.ok (PyData.int (i / j)) else .no) = _
  rw [if_pos h]
/-- the k-th number of a script, or 0 -/
def cellG : Env → SR := (sSeq (sIf (tB (eBin dLt (eVar 1) (eBl (d1 lenD) (aCons (eVar 0) aNil)))) (sRet (eBin dItem (eVar 0) (eVar 1))) sNil) (sRet (eC (.int 0))))
theorem atD_nat {xs : List Da} {k : Nat} {d : Da} (h : xs[k]? = some d) : atD xs (k : Int) = some d := by
  obtain ⟨hl, _⟩ := List.getElem?_eq_some_iff.mp h
  have e : ixN xs.length (k : Int) = some k := by
    unfold ixN
    simp only [Int.toNat_natCast]
    first
      | (rw [if_pos (by omega)]; done)
      | (simp; omega)
      | (split <;> simp_all <;> omega)
  unfold atD
  rw [e]
  exact h
theorem cell_of (ns : List Int) (k : Nat) : fnD 2 2 cellG [.list (ns.map PyData.int), .int (k : Int)] = .ok (.int (ns.getD k 0)) := by
  show outS (cellG [.fz (.list (ns.map PyData.int)), .fz (.int (k : Int))]) = _
  have hl : (ns.map PyData.int).length = ns.length := List.length_map _
  have ht : tB (eBin dLt (eVar 1) (eBl (d1 lenD) (aCons (eVar 0) aNil))) [.fz (.list (ns.map PyData.int)), .fz (.int (k : Int))] = .ok (decide ((k : Int) < ((ns.map PyData.int).length : Nat))) := rfl
  by_cases h : k < ns.length
  · have hd : decide ((k : Int) < ((ns.map PyData.int).length : Nat)) = true := decide_eq_true (by rw [hl]; omega)
    rw [hd] at ht
    have hi : eBin dItem (eVar 0) (eVar 1) [.fz (.list (ns.map PyData.int)), .fz (.int (k : Int))] = .ok (.int (ns.getD k 0)) := by
      show (match atD (ns.map PyData.int) (k : Int) with | some d => R.ok d | none => .no).calm = _
      rw [atD_nat (d := .int (ns.getD k 0)) (by rw [List.getElem?_map, List.getElem?_eq_getElem h, List.getD_eq_getElem?_getD, List.getElem?_eq_getElem h]; rfl)]
      rfl
    unfold cellG sSeq sIf
    rw [ht]
    show outS (match sRet (eBin dItem (eVar 0) (eVar 1)) [.fz (.list (ns.map PyData.int)), .fz (.int (k : Int))] with | .nx r' => _ | x => x) = _
    unfold sRet
    rw [hi]
    rfl
  · have hd : decide ((k : Int) < ((ns.map PyData.int).length : Nat)) = false := decide_eq_false (by rw [hl]; omega)
    rw [hd] at ht
    have hg : ns.getD k 0 = 0 := by
      rw [List.getD_eq_getElem?_getD, List.getElem?_eq_none (by omega)]
      rfl
    unfold cellG sSeq sIf
    rw [ht, hg]
    rfl
end Mi

/-! The mirrors of law_k16_made, printed by gen.py. -/
namespace Mi
open PySem PySem.Spec PyProof.Rows L2
def topS (i : Nat) : Stmt := PySem.Challenge.pw_lastjump_k16_made.main.body.getD i (.Pass ⟨0, 0, 0, 0⟩)
abbrev s__law_cell : Stmt := topS 75
abbrev s_is_within : Stmt := topS 14
abbrev s_both_ways : Stmt := topS 26
abbrev s_line : Stmt := topS 27
abbrev s_ring : Stmt := topS 28
abbrev s_field : Stmt := topS 29
abbrev s__law_called : Stmt := topS 81
abbrev s__law_called_then : Stmt := topS 82
abbrev s__law_caught : Stmt := topS 83
abbrev s__law_both : Stmt := topS 79
abbrev s__law_mix : Stmt := topS 76
abbrev s__law_field : Stmt := topS 80
abbrev s__law_in : Stmt := topS 77
abbrev s__law_is_world : Stmt := topS 78
abbrev s_law : Stmt := topS 84
theorem sc__law_cell : FnScope ["script", "k"] ["script", "k"] (defScope s__law_cell) := ⟨rfl, rfl, rfl, by decide +kernel, rfl, by decide +kernel, by decide +kernel⟩
theorem sc_is_within : FnScope ["thing", "low", "high"] ["thing", "low", "high"] (defScope s_is_within) := ⟨rfl, rfl, rfl, by decide +kernel, rfl, by decide +kernel, by decide +kernel⟩
theorem sc_both_ways : FnScope ["many", "rows", "row"] ["many", "rows"] (defScope s_both_ways) := ⟨rfl, rfl, rfl, by decide +kernel, rfl, by decide +kernel, by decide +kernel⟩
theorem sc_line : FnScope ["many", "cell"] ["many"] (defScope s_line) := ⟨rfl, rfl, rfl, by decide +kernel, rfl, by decide +kernel, by decide +kernel⟩
theorem sc_ring : FnScope ["many", "cell"] ["many"] (defScope s_ring) := ⟨rfl, rfl, rfl, by decide +kernel, rfl, by decide +kernel, by decide +kernel⟩
theorem sc_field : FnScope ["wide", "high", "rows", "down", "at"] ["wide", "high"] (defScope s_field) := ⟨rfl, rfl, rfl, by decide +kernel, rfl, by decide +kernel, by decide +kernel⟩
theorem sc__law_called : FnScope ["which", "a"] ["which", "a"] (defScope s__law_called) := ⟨rfl, rfl, rfl, by decide +kernel, rfl, by decide +kernel, by decide +kernel⟩
theorem sc__law_called_then : FnScope ["which", "a"] ["which", "a"] (defScope s__law_called_then) := ⟨rfl, rfl, rfl, by decide +kernel, rfl, by decide +kernel, by decide +kernel⟩
theorem sc__law_caught : FnScope ["which", "a", "caught"] ["which", "a"] (defScope s__law_caught) := ⟨rfl, rfl, rfl, by decide +kernel, rfl, by decide +kernel, by decide +kernel⟩
theorem sc__law_both : FnScope ["many", "rows", "some", "row"] ["many", "rows"] (defScope s__law_both) := ⟨rfl, rfl, rfl, by decide +kernel, rfl, by decide +kernel, by decide +kernel⟩
theorem sc__law_mix : FnScope ["cell", "prime", "many"] ["cell", "prime", "many"] (defScope s__law_mix) := ⟨rfl, rfl, rfl, by decide +kernel, rfl, by decide +kernel, by decide +kernel⟩
theorem sc__law_field : FnScope ["wide", "high", "rows", "cell"] ["wide", "high"] (defScope s__law_field) := ⟨rfl, rfl, rfl, by decide +kernel, rfl, by decide +kernel, by decide +kernel⟩
theorem sc__law_in : FnScope ["thing", "low", "high"] ["thing", "low", "high"] (defScope s__law_in) := ⟨rfl, rfl, rfl, by decide +kernel, rfl, by decide +kernel, by decide +kernel⟩
theorem sc__law_is_world : FnScope ["thing", "jump", "one", "other"] ["thing"] (defScope s__law_is_world) := ⟨rfl, rfl, rfl, by decide +kernel, rfl, by decide +kernel, by decide +kernel⟩
theorem sc_law : FnScope ["script", "long", "k", "about", "rows", "wide", "high", "due", "odd"] ["script"] (defScope s_law) := ⟨rfl, rfl, rfl, by decide +kernel, rfl, by decide +kernel, by decide +kernel⟩
def excL : List String := ["JumpError", "BadWorld", "BadStand", "BadJump", "BadCount", "TooMany", "BadText", "BadNames", "Nothing"]
def b__law_cell : Env → SR := (sSeq (sIf (tB (eBin dLt (eVar 1) (eBl (d1 lenD) (aCons (eVar 0) aNil)))) (sRet (eBin dItem (eVar 0) (eVar 1))) sNil)
  (sRet (eC (.int 0))))
def b__law_cell_0 : Env → SR := (sIf (tB (eBin dLt (eVar 1) (eBl (d1 lenD) (aCons (eVar 0) aNil)))) (sRet (eBin dItem (eVar 0) (eVar 1))) sNil)
def b__law_cell_1 : Env → SR := (sRet (eC (.int 0)))
theorem b__law_cell_eq : b__law_cell = (sSeq b__law_cell_0 b__law_cell_1) := rfl
def m__law_cell : List Da → R Da := fnD 2 2 b__law_cell
def b_is_within : Env → SR := (sRet (eAnd (eIsi "int" (eVar 0)) (eAnd (eNt (eIsi "bool" (eVar 0))) (eChain dLe dLe (eVar 1) (eVar 0) (eVar 2)))))
def b_is_within_0 : Env → SR := (sRet (eAnd (eIsi "int" (eVar 0)) (eAnd (eNt (eIsi "bool" (eVar 0))) (eChain dLe dLe (eVar 1) (eVar 0) (eVar 2)))))
theorem b_is_within_eq : b_is_within = b_is_within_0 := rfl
def m_is_within : List Da → R Da := fnD 3 3 b_is_within
def b_both_ways : Env → SR := (sRet (eTup (aCons (eVar 0) (aCons (eBl (d1 tupleD) (aCons (eBl (d1 sortD) (aCons (eBin dAdd (eVar 1) (eLc [2] (iD (eVar 1)) (gNm 2) ftYes (eRev (eVar 2)))) aNil)) aNil)) aNil))))
def b_both_ways_0 : Env → SR := (sRet (eTup (aCons (eVar 0) (aCons (eBl (d1 tupleD) (aCons (eBl (d1 sortD) (aCons (eBin dAdd (eVar 1) (eLc [2] (iD (eVar 1)) (gNm 2) ftYes (eRev (eVar 2)))) aNil)) aNil)) aNil))))
theorem b_both_ways_eq : b_both_ways = b_both_ways_0 := rfl
def m_both_ways : List Da → R Da := fnD 2 3 b_both_ways
def b_line : Env → SR := (sSeq (sIf (tNot (tTru (eCall m_is_within (aCons (eVar 0) (aCons (eC (.int 3)) (aCons (eC (.int 10)) aNil)))))) (sRaise "BadCount") sNil)
  (sRet (eCall m_both_ways (aCons (eVar 0) (aCons (eFz (eLc [1] (iR1 (eBin dSub (eVar 0) (eC (.int 2)))) (gNm 1) ftYes (eTup (aCons (eVar 1) (aCons (eBin dAdd (eVar 1) (eC (.int 1))) (aCons (eBin dAdd (eVar 1) (eC (.int 2))) aNil)))))) aNil)))))
def b_line_0 : Env → SR := (sIf (tNot (tTru (eCall m_is_within (aCons (eVar 0) (aCons (eC (.int 3)) (aCons (eC (.int 10)) aNil)))))) (sRaise "BadCount") sNil)
def b_line_1 : Env → SR := (sRet (eCall m_both_ways (aCons (eVar 0) (aCons (eFz (eLc [1] (iR1 (eBin dSub (eVar 0) (eC (.int 2)))) (gNm 1) ftYes (eTup (aCons (eVar 1) (aCons (eBin dAdd (eVar 1) (eC (.int 1))) (aCons (eBin dAdd (eVar 1) (eC (.int 2))) aNil)))))) aNil))))
theorem b_line_eq : b_line = (sSeq b_line_0 b_line_1) := rfl
def m_line : List Da → R Da := fnD 1 2 b_line
def b_ring : Env → SR := (sSeq (sIf (tNot (tTru (eCall m_is_within (aCons (eVar 0) (aCons (eC (.int 3)) (aCons (eC (.int 8)) aNil)))))) (sRaise "BadCount") sNil)
  (sRet (eCall m_both_ways (aCons (eVar 0) (aCons (eFz (eLc [1] (iR1 (eVar 0)) (gNm 1) ftYes (eTup (aCons (eVar 1) (aCons (eBin dMod (eBin dAdd (eVar 1) (eC (.int 1))) (eVar 0)) (aCons (eBin dMod (eBin dAdd (eVar 1) (eC (.int 2))) (eVar 0)) aNil)))))) aNil)))))
def b_ring_0 : Env → SR := (sIf (tNot (tTru (eCall m_is_within (aCons (eVar 0) (aCons (eC (.int 3)) (aCons (eC (.int 8)) aNil)))))) (sRaise "BadCount") sNil)
def b_ring_1 : Env → SR := (sRet (eCall m_both_ways (aCons (eVar 0) (aCons (eFz (eLc [1] (iR1 (eVar 0)) (gNm 1) ftYes (eTup (aCons (eVar 1) (aCons (eBin dMod (eBin dAdd (eVar 1) (eC (.int 1))) (eVar 0)) (aCons (eBin dMod (eBin dAdd (eVar 1) (eC (.int 2))) (eVar 0)) aNil)))))) aNil))))
theorem b_ring_eq : b_ring = (sSeq b_ring_0 b_ring_1) := rfl
def m_ring : List Da → R Da := fnD 1 2 b_ring
def b_field : Env → SR := (sSeq (sIf (tOr (tNot (tTru (eCall m_is_within (aCons (eVar 0) (aCons (eC (.int 1)) (aCons (eC (.int 12)) aNil)))))) (tOr (tNot (tTru (eCall m_is_within (aCons (eVar 1) (aCons (eC (.int 1)) (aCons (eC (.int 12)) aNil)))))) (tNot (tB (eChain dLe dLe (eC (.int 3)) (eBin dMulI (eVar 0) (eVar 1)) (eC (.int 12))))))) (sRaise "BadCount") sNil)
  (sSeq (sOwn 2 (eLst aNil))
  (sSeq (sFor (iR1 (eVar 1)) (gNm 3) (sExt 2 (eLc [4] (iR1 (eBin dSub (eVar 0) (eC (.int 2)))) (gNm 4) ftYes (eTup (aCons (eBin dAdd (eBin dMulI (eVar 0) (eVar 3)) (eVar 4)) (aCons (eBin dAdd (eBin dAdd (eBin dMulI (eVar 0) (eVar 3)) (eVar 4)) (eC (.int 1))) (aCons (eBin dAdd (eBin dAdd (eBin dMulI (eVar 0) (eVar 3)) (eVar 4)) (eC (.int 2))) aNil)))))))
  (sSeq (sFor (iR1 (eBin dSub (eVar 1) (eC (.int 2)))) (gNm 3) (sExt 2 (eLc [4] (iR1 (eVar 0)) (gNm 4) ftYes (eTup (aCons (eBin dAdd (eBin dMulI (eVar 0) (eVar 3)) (eVar 4)) (aCons (eBin dAdd (eBin dAdd (eBin dMulI (eVar 0) (eVar 3)) (eVar 4)) (eVar 0)) (aCons (eBin dAdd (eBin dMulI (eVar 0) (eBin dAdd (eVar 3) (eC (.int 2)))) (eVar 4)) aNil)))))))
  (sSeq (sIf (tB (eBin dGt (eBin dMulI (eC (.int 2)) (eBl (d1 lenD) (aCons (eRd 2) aNil))) (eC (.int 16)))) (sRaise "BadCount") sNil)
  (sFrz 2 (sRet (eCall m_both_ways (aCons (eBin dMulI (eVar 0) (eVar 1)) (aCons (eVar 2) aNil))))))))))
def b_field_0 : Env → SR := (sIf (tOr (tNot (tTru (eCall m_is_within (aCons (eVar 0) (aCons (eC (.int 1)) (aCons (eC (.int 12)) aNil)))))) (tOr (tNot (tTru (eCall m_is_within (aCons (eVar 1) (aCons (eC (.int 1)) (aCons (eC (.int 12)) aNil)))))) (tNot (tB (eChain dLe dLe (eC (.int 3)) (eBin dMulI (eVar 0) (eVar 1)) (eC (.int 12))))))) (sRaise "BadCount") sNil)
def b_field_1 : Env → SR := (sOwn 2 (eLst aNil))
def b_field_2 : Env → SR := (sFor (iR1 (eVar 1)) (gNm 3) (sExt 2 (eLc [4] (iR1 (eBin dSub (eVar 0) (eC (.int 2)))) (gNm 4) ftYes (eTup (aCons (eBin dAdd (eBin dMulI (eVar 0) (eVar 3)) (eVar 4)) (aCons (eBin dAdd (eBin dAdd (eBin dMulI (eVar 0) (eVar 3)) (eVar 4)) (eC (.int 1))) (aCons (eBin dAdd (eBin dAdd (eBin dMulI (eVar 0) (eVar 3)) (eVar 4)) (eC (.int 2))) aNil)))))))
def b_field_3 : Env → SR := (sFor (iR1 (eBin dSub (eVar 1) (eC (.int 2)))) (gNm 3) (sExt 2 (eLc [4] (iR1 (eVar 0)) (gNm 4) ftYes (eTup (aCons (eBin dAdd (eBin dMulI (eVar 0) (eVar 3)) (eVar 4)) (aCons (eBin dAdd (eBin dAdd (eBin dMulI (eVar 0) (eVar 3)) (eVar 4)) (eVar 0)) (aCons (eBin dAdd (eBin dMulI (eVar 0) (eBin dAdd (eVar 3) (eC (.int 2)))) (eVar 4)) aNil)))))))
def b_field_4 : Env → SR := (sIf (tB (eBin dGt (eBin dMulI (eC (.int 2)) (eBl (d1 lenD) (aCons (eRd 2) aNil))) (eC (.int 16)))) (sRaise "BadCount") sNil)
def b_field_5 : Env → SR := (sFrz 2 (sRet (eCall m_both_ways (aCons (eBin dMulI (eVar 0) (eVar 1)) (aCons (eVar 2) aNil)))))
theorem b_field_eq : b_field = (sSeq b_field_0 (sSeq b_field_1 (sSeq b_field_2 (sSeq b_field_3 (sSeq b_field_4 b_field_5))))) := rfl
def m_field : List Da → R Da := fnD 2 5 b_field
def b__law_called : Env → SR := (sSeq (sIf (tB (eBin dLt (eVar 0) (eC (.int 4)))) (sSeq (sIf (tB (eBin dLt (eVar 0) (eC (.int 2)))) (sRet (eIf (tB (eBin dEq (eVar 0) (eC (.int 0)))) (eCall m_line (aCons (eBin dItem (eVar 1) (eC (.int 0))) aNil)) (eCall m_ring (aCons (eBin dItem (eVar 1) (eC (.int 0))) aNil)))) sNil)
  (sRet (eIf (tB (eBin dEq (eVar 0) (eC (.int 2)))) (eCall m_field (aCons (eBin dItem (eVar 1) (eC (.int 0))) (aCons (eBin dItem (eVar 1) (eC (.int 1))) aNil))) eNo))) sNil)
  (sSeq (sIf (tB (eBin dLt (eVar 0) (eC (.int 8)))) (sSeq (sIf (tB (eBin dLt (eVar 0) (eC (.int 6)))) (sRet (eIf (tB (eBin dEq (eVar 0) (eC (.int 4)))) eNo eNo)) sNil)
  (sRet (eIf (tB (eBin dEq (eVar 0) (eC (.int 6)))) eNo eNo))) sNil)
  (sSeq (sIf (tB (eBin dEq (eVar 0) (eC (.int 8)))) sNo sNil)
  (sRet (eIf (tB (eBin dEq (eVar 0) (eC (.int 9)))) eNo eNo)))))
def b__law_called_0 : Env → SR := (sIf (tB (eBin dLt (eVar 0) (eC (.int 4)))) (sSeq (sIf (tB (eBin dLt (eVar 0) (eC (.int 2)))) (sRet (eIf (tB (eBin dEq (eVar 0) (eC (.int 0)))) (eCall m_line (aCons (eBin dItem (eVar 1) (eC (.int 0))) aNil)) (eCall m_ring (aCons (eBin dItem (eVar 1) (eC (.int 0))) aNil)))) sNil)
  (sRet (eIf (tB (eBin dEq (eVar 0) (eC (.int 2)))) (eCall m_field (aCons (eBin dItem (eVar 1) (eC (.int 0))) (aCons (eBin dItem (eVar 1) (eC (.int 1))) aNil))) eNo))) sNil)
def b__law_called_1 : Env → SR := (sIf (tB (eBin dLt (eVar 0) (eC (.int 8)))) (sSeq (sIf (tB (eBin dLt (eVar 0) (eC (.int 6)))) (sRet (eIf (tB (eBin dEq (eVar 0) (eC (.int 4)))) eNo eNo)) sNil)
  (sRet (eIf (tB (eBin dEq (eVar 0) (eC (.int 6)))) eNo eNo))) sNil)
def b__law_called_2 : Env → SR := (sIf (tB (eBin dEq (eVar 0) (eC (.int 8)))) sNo sNil)
def b__law_called_3 : Env → SR := (sRet (eIf (tB (eBin dEq (eVar 0) (eC (.int 9)))) eNo eNo))
theorem b__law_called_eq : b__law_called = (sSeq b__law_called_0 (sSeq b__law_called_1 (sSeq b__law_called_2 b__law_called_3))) := rfl
def m__law_called : List Da → R Da := fnD 2 2 b__law_called
def b__law_called_then : Env → SR := (sSeq (sIf (tB (eBin dLt (eVar 0) (eC (.int 15)))) (sSeq (sIf (tB (eBin dLt (eVar 0) (eC (.int 13)))) (sRet (eIf (tB (eBin dEq (eVar 0) (eC (.int 11)))) eNo eNo)) sNil)
  (sRet (eIf (tB (eBin dEq (eVar 0) (eC (.int 13)))) eNo eNo))) sNil)
  (sSeq (sIf (tB (eBin dLt (eVar 0) (eC (.int 18)))) (sSeq (sIf (tB (eBin dEq (eVar 0) (eC (.int 15)))) sNo sNil)
  (sRet (eIf (tB (eBin dEq (eVar 0) (eC (.int 16)))) eNo eNo))) sNil)
  (sSeq (sIf (tB (eBin dEq (eVar 0) (eC (.int 18)))) sNo sNil)
  (sRet (eIf (tB (eBin dEq (eVar 0) (eC (.int 19)))) eNo eNo)))))
def b__law_called_then_0 : Env → SR := (sIf (tB (eBin dLt (eVar 0) (eC (.int 15)))) (sSeq (sIf (tB (eBin dLt (eVar 0) (eC (.int 13)))) (sRet (eIf (tB (eBin dEq (eVar 0) (eC (.int 11)))) eNo eNo)) sNil)
  (sRet (eIf (tB (eBin dEq (eVar 0) (eC (.int 13)))) eNo eNo))) sNil)
def b__law_called_then_1 : Env → SR := (sIf (tB (eBin dLt (eVar 0) (eC (.int 18)))) (sSeq (sIf (tB (eBin dEq (eVar 0) (eC (.int 15)))) sNo sNil)
  (sRet (eIf (tB (eBin dEq (eVar 0) (eC (.int 16)))) eNo eNo))) sNil)
def b__law_called_then_2 : Env → SR := (sIf (tB (eBin dEq (eVar 0) (eC (.int 18)))) sNo sNil)
def b__law_called_then_3 : Env → SR := (sRet (eIf (tB (eBin dEq (eVar 0) (eC (.int 19)))) eNo eNo))
theorem b__law_called_then_eq : b__law_called_then = (sSeq b__law_called_then_0 (sSeq b__law_called_then_1 (sSeq b__law_called_then_2 b__law_called_then_3))) := rfl
def m__law_called_then : List Da → R Da := fnD 2 2 b__law_called_then
def b__law_caught : Env → SR := (sSeq (sSet 2 (eC (.str (Str.ofString ""))))
  (sSeq (sTry excL (sIf (tB (eBin dLt (eVar 0) (eC (.int 11)))) (sExp (eCall m__law_called (aCons (eVar 0) (aCons (eVar 1) aNil)))) (sExp (eCall m__law_called_then (aCons (eVar 0) (aCons (eVar 1) aNil))))) (("BadWorld", (sSet 2 (eC (.str (Str.ofString "world"))))) :: (("BadStand", (sSet 2 (eC (.str (Str.ofString "stand"))))) :: (("BadJump", (sSet 2 (eC (.str (Str.ofString "jump"))))) :: (("BadCount", (sSet 2 (eC (.str (Str.ofString "count"))))) :: (("BadNames", (sSet 2 (eC (.str (Str.ofString "names"))))) :: (("BadText", (sSet 2 (eC (.str (Str.ofString "text"))))) :: (("TooMany", (sSet 2 (eC (.str (Str.ofString "many"))))) :: []))))))))
  (sRet (eVar 2))))
def b__law_caught_0 : Env → SR := (sSet 2 (eC (.str (Str.ofString ""))))
def b__law_caught_1 : Env → SR := (sTry excL (sIf (tB (eBin dLt (eVar 0) (eC (.int 11)))) (sExp (eCall m__law_called (aCons (eVar 0) (aCons (eVar 1) aNil)))) (sExp (eCall m__law_called_then (aCons (eVar 0) (aCons (eVar 1) aNil))))) (("BadWorld", (sSet 2 (eC (.str (Str.ofString "world"))))) :: (("BadStand", (sSet 2 (eC (.str (Str.ofString "stand"))))) :: (("BadJump", (sSet 2 (eC (.str (Str.ofString "jump"))))) :: (("BadCount", (sSet 2 (eC (.str (Str.ofString "count"))))) :: (("BadNames", (sSet 2 (eC (.str (Str.ofString "names"))))) :: (("BadText", (sSet 2 (eC (.str (Str.ofString "text"))))) :: (("TooMany", (sSet 2 (eC (.str (Str.ofString "many"))))) :: []))))))))
def b__law_caught_2 : Env → SR := (sRet (eVar 2))
theorem b__law_caught_eq : b__law_caught = (sSeq b__law_caught_0 (sSeq b__law_caught_1 b__law_caught_2)) := rfl
def m__law_caught : List Da → R Da := fnD 2 3 b__law_caught
def b__law_both : Env → SR := (sSeq (sSet 2 (eFz (eLst aNil)))
  (sSeq (sFor (iD (eVar 1)) (gNm 3) (sSet 2 (eBin dAdd (eVar 2) (eLst (aCons (eVar 3) (aCons (eTup (aCons (eBin dItem (eVar 3) (eC (.int 2))) (aCons (eBin dItem (eVar 3) (eC (.int 1))) (aCons (eBin dItem (eVar 3) (eC (.int 0))) aNil)))) aNil))))))
  (sRet (eTup (aCons (eVar 0) (aCons (eBl (d1 tupleD) (aCons (eBl (d1 sortD) (aCons (eVar 2) aNil)) aNil)) aNil))))))
def b__law_both_0 : Env → SR := (sSet 2 (eFz (eLst aNil)))
def b__law_both_1 : Env → SR := (sFor (iD (eVar 1)) (gNm 3) (sSet 2 (eBin dAdd (eVar 2) (eLst (aCons (eVar 3) (aCons (eTup (aCons (eBin dItem (eVar 3) (eC (.int 2))) (aCons (eBin dItem (eVar 3) (eC (.int 1))) (aCons (eBin dItem (eVar 3) (eC (.int 0))) aNil)))) aNil))))))
def b__law_both_2 : Env → SR := (sRet (eTup (aCons (eVar 0) (aCons (eBl (d1 tupleD) (aCons (eBl (d1 sortD) (aCons (eVar 2) aNil)) aNil)) aNil))))
theorem b__law_both_eq : b__law_both = (sSeq b__law_both_0 (sSeq b__law_both_1 b__law_both_2)) := rfl
def m__law_both : List Da → R Da := fnD 2 4 b__law_both
def b__law_mix : Env → SR := (sRet (eBin dMod (eBin dMod (eBin dPow (eBin dMod (eBin dMulI (eVar 0) (eC (.int 48271))) (eVar 1)) (eC (.int 3))) (eVar 1)) (eVar 2)))
def b__law_mix_0 : Env → SR := (sRet (eBin dMod (eBin dMod (eBin dPow (eBin dMod (eBin dMulI (eVar 0) (eC (.int 48271))) (eVar 1)) (eC (.int 3))) (eVar 1)) (eVar 2)))
theorem b__law_mix_eq : b__law_mix = b__law_mix_0 := rfl
def m__law_mix : List Da → R Da := fnD 3 3 b__law_mix
def b__law_field : Env → SR := (sSeq (sOwn 2 (eLst aNil))
  (sSeq (sFor (iR1 (eBin dMulI (eVar 0) (eVar 1))) (gNm 3) (sSeq (sIf (tB (eBin dLt (eBin dAdd (eBin dMod (eVar 3) (eVar 0)) (eC (.int 2))) (eVar 0))) (sApp 2 (eTup (aCons (eVar 3) (aCons (eBin dAdd (eVar 3) (eC (.int 1))) (aCons (eBin dAdd (eVar 3) (eC (.int 2))) aNil))))) sNil)
  (sIf (tB (eBin dLt (eBin dAdd (eVar 3) (eBin dMulI (eC (.int 2)) (eVar 0))) (eBin dMulI (eVar 0) (eVar 1)))) (sApp 2 (eTup (aCons (eVar 3) (aCons (eBin dAdd (eVar 3) (eVar 0)) (aCons (eBin dAdd (eVar 3) (eBin dMulI (eC (.int 2)) (eVar 0))) aNil))))) sNil)))
  (sFrz 2 (sRet (eCall m__law_both (aCons (eBin dMulI (eVar 0) (eVar 1)) (aCons (eVar 2) aNil)))))))
def b__law_field_0 : Env → SR := (sOwn 2 (eLst aNil))
def b__law_field_1 : Env → SR := (sFor (iR1 (eBin dMulI (eVar 0) (eVar 1))) (gNm 3) (sSeq (sIf (tB (eBin dLt (eBin dAdd (eBin dMod (eVar 3) (eVar 0)) (eC (.int 2))) (eVar 0))) (sApp 2 (eTup (aCons (eVar 3) (aCons (eBin dAdd (eVar 3) (eC (.int 1))) (aCons (eBin dAdd (eVar 3) (eC (.int 2))) aNil))))) sNil)
  (sIf (tB (eBin dLt (eBin dAdd (eVar 3) (eBin dMulI (eC (.int 2)) (eVar 0))) (eBin dMulI (eVar 0) (eVar 1)))) (sApp 2 (eTup (aCons (eVar 3) (aCons (eBin dAdd (eVar 3) (eVar 0)) (aCons (eBin dAdd (eVar 3) (eBin dMulI (eC (.int 2)) (eVar 0))) aNil))))) sNil)))
def b__law_field_2 : Env → SR := (sFrz 2 (sRet (eCall m__law_both (aCons (eBin dMulI (eVar 0) (eVar 1)) (aCons (eVar 2) aNil)))))
theorem b__law_field_eq : b__law_field = (sSeq b__law_field_0 (sSeq b__law_field_1 b__law_field_2)) := rfl
def m__law_field : List Da → R Da := fnD 2 4 b__law_field
def b__law_in : Env → SR := (sRet (eAnd (eIsi "int" (eVar 0)) (eAnd (eNt (eIsi "bool" (eVar 0))) (eChain dLe dLe (eVar 1) (eVar 0) (eVar 2)))))
def b__law_in_0 : Env → SR := (sRet (eAnd (eIsi "int" (eVar 0)) (eAnd (eNt (eIsi "bool" (eVar 0))) (eChain dLe dLe (eVar 1) (eVar 0) (eVar 2)))))
theorem b__law_in_eq : b__law_in = b__law_in_0 := rfl
def m__law_in : List Da → R Da := fnD 3 3 b__law_in
def b__law_is_world : Env → SR := (sSeq (sIf (tOr (tNot (tTru (eIsi "tuple" (eVar 0)))) (tOr (tB (eBin dNe (eBl (d1 lenD) (aCons (eVar 0) aNil)) (eC (.int 2)))) (tNot (tTru (eCall m__law_in (aCons (eBin dItem (eVar 0) (eC (.int 0))) (aCons (eC (.int 3)) (aCons (eC (.int 12)) aNil)))))))) (sRet (eC (.bool false))) sNil)
  (sSeq (sIf (tOr (tNot (tTru (eIsi "tuple" (eBin dItem (eVar 0) (eC (.int 1)))))) (tB (eBin dGt (eBl (d1 lenD) (aCons (eBin dItem (eVar 0) (eC (.int 1))) aNil)) (eC (.int 16))))) (sRet (eC (.bool false))) sNil)
  (sSeq (sFor (iD (eBin dItem (eVar 0) (eC (.int 1)))) (gNm 1) (sSeq (sIf (tOr (tNot (tTru (eIsi "tuple" (eVar 1)))) (tB (eBin dNe (eBl (d1 lenD) (aCons (eVar 1) aNil)) (eC (.int 3))))) (sRet (eC (.bool false))) sNil)
  (sSeq (sIf (tB (eBin dNe (eLc [2] (iD (eVar 1)) (gNm 2) (tNot (tTru (eCall m__law_in (aCons (eVar 2) (aCons (eC (.int 0)) (aCons (eBin dSub (eBin dItem (eVar 0) (eC (.int 0))) (eC (.int 1))) aNil)))))) (eVar 2)) (eLst aNil))) (sRet (eC (.bool false))) sNil)
  (sIf (tOr (tB (eBin dEq (eBin dItem (eVar 1) (eC (.int 0))) (eBin dItem (eVar 1) (eC (.int 1))))) (tOr (tB (eBin dEq (eBin dItem (eVar 1) (eC (.int 0))) (eBin dItem (eVar 1) (eC (.int 2))))) (tB (eBin dEq (eBin dItem (eVar 1) (eC (.int 1))) (eBin dItem (eVar 1) (eC (.int 2))))))) (sRet (eC (.bool false))) sNil))))
  (sRet (eBin dEq (eLc [2, 3] (iZip (eBin dItem (eVar 0) (eC (.int 1))) (eSl (eBin dItem (eVar 0) (eC (.int 1))) (oS (eC (.int 1))) oN)) (gTp (gsCons (gNm 2) (gsCons (gNm 3) gsNil)) 2) (tB (eBin dGe (eVar 2) (eVar 3))) (eC (.int 1))) (eLst aNil))))))
def b__law_is_world_0 : Env → SR := (sIf (tOr (tNot (tTru (eIsi "tuple" (eVar 0)))) (tOr (tB (eBin dNe (eBl (d1 lenD) (aCons (eVar 0) aNil)) (eC (.int 2)))) (tNot (tTru (eCall m__law_in (aCons (eBin dItem (eVar 0) (eC (.int 0))) (aCons (eC (.int 3)) (aCons (eC (.int 12)) aNil)))))))) (sRet (eC (.bool false))) sNil)
def b__law_is_world_1 : Env → SR := (sIf (tOr (tNot (tTru (eIsi "tuple" (eBin dItem (eVar 0) (eC (.int 1)))))) (tB (eBin dGt (eBl (d1 lenD) (aCons (eBin dItem (eVar 0) (eC (.int 1))) aNil)) (eC (.int 16))))) (sRet (eC (.bool false))) sNil)
def b__law_is_world_2 : Env → SR := (sFor (iD (eBin dItem (eVar 0) (eC (.int 1)))) (gNm 1) (sSeq (sIf (tOr (tNot (tTru (eIsi "tuple" (eVar 1)))) (tB (eBin dNe (eBl (d1 lenD) (aCons (eVar 1) aNil)) (eC (.int 3))))) (sRet (eC (.bool false))) sNil)
  (sSeq (sIf (tB (eBin dNe (eLc [2] (iD (eVar 1)) (gNm 2) (tNot (tTru (eCall m__law_in (aCons (eVar 2) (aCons (eC (.int 0)) (aCons (eBin dSub (eBin dItem (eVar 0) (eC (.int 0))) (eC (.int 1))) aNil)))))) (eVar 2)) (eLst aNil))) (sRet (eC (.bool false))) sNil)
  (sIf (tOr (tB (eBin dEq (eBin dItem (eVar 1) (eC (.int 0))) (eBin dItem (eVar 1) (eC (.int 1))))) (tOr (tB (eBin dEq (eBin dItem (eVar 1) (eC (.int 0))) (eBin dItem (eVar 1) (eC (.int 2))))) (tB (eBin dEq (eBin dItem (eVar 1) (eC (.int 1))) (eBin dItem (eVar 1) (eC (.int 2))))))) (sRet (eC (.bool false))) sNil))))
def b__law_is_world_3 : Env → SR := (sRet (eBin dEq (eLc [2, 3] (iZip (eBin dItem (eVar 0) (eC (.int 1))) (eSl (eBin dItem (eVar 0) (eC (.int 1))) (oS (eC (.int 1))) oN)) (gTp (gsCons (gNm 2) (gsCons (gNm 3) gsNil)) 2) (tB (eBin dGe (eVar 2) (eVar 3))) (eC (.int 1))) (eLst aNil)))
theorem b__law_is_world_eq : b__law_is_world = (sSeq b__law_is_world_0 (sSeq b__law_is_world_1 (sSeq b__law_is_world_2 b__law_is_world_3))) := rfl
def m__law_is_world : List Da → R Da := fnD 1 4 b__law_is_world
def b_law : Env → SR := (sSeq (sSet 1 (eBin dAdd (eC (.int 3)) (eBin dMod (eCall m__law_cell (aCons (eVar 0) (aCons (eC (.int 0)) aNil))) (eC (.int 8)))))
  (sSeq (sIf (tB (eBin dNe (eCall m__law_caught (aCons (eC (.int 0)) (aCons (eFz (eLst (aCons (eVar 1) aNil))) aNil))) (eC (.str (Str.ofString ""))))) (sRet (eC (.bool false))) sNil)
  (sSeq (sIf (tB (eBin dNe (eCall m_line (aCons (eVar 1) aNil)) (eCall m__law_both (aCons (eVar 1) (aCons (eFz (eLc [2] (iR1 (eBin dSub (eVar 1) (eC (.int 2)))) (gNm 2) ftYes (eTup (aCons (eVar 2) (aCons (eBin dAdd (eVar 2) (eC (.int 1))) (aCons (eBin dAdd (eVar 2) (eC (.int 2))) aNil)))))) aNil))))) (sRet (eC (.bool false))) sNil)
  (sSeq (sSet 3 (eBin dAdd (eC (.int 3)) (eBin dMod (eCall m__law_cell (aCons (eVar 0) (aCons (eC (.int 1)) aNil))) (eC (.int 6)))))
  (sSeq (sOwn 4 (eLc [2] (iR1 (eVar 3)) (gNm 2) ftYes (eTup (aCons (eVar 2) (aCons (eBin dMod (eBin dAdd (eVar 2) (eC (.int 1))) (eVar 3)) (aCons (eBin dMod (eBin dAdd (eVar 2) (eC (.int 2))) (eVar 3)) aNil))))))
  (sFrz 4 (sSeq (sIf (tOr (tB (eBin dNe (eCall m__law_caught (aCons (eC (.int 1)) (aCons (eFz (eLst (aCons (eVar 3) aNil))) aNil))) (eC (.str (Str.ofString ""))))) (tB (eBin dNe (eCall m_ring (aCons (eVar 3) aNil)) (eCall m__law_both (aCons (eVar 3) (aCons (eVar 4) aNil)))))) (sRet (eC (.bool false))) sNil)
  (sSeq (sSet 5 (eBin dAdd (eC (.int 1)) (eBin dMod (eCall m__law_cell (aCons (eVar 0) (aCons (eC (.int 2)) aNil))) (eC (.int 12)))))
  (sSeq (sSet 6 (eBin dAdd (eC (.int 1)) (eCall m__law_mix (aCons (eCall m__law_cell (aCons (eVar 0) (aCons (eC (.int 3)) aNil))) (aCons (eC (.int 9949)) (aCons (eBin dFdiv (eC (.int 12)) (eVar 5)) aNil))))))
  (sSeq (sSet 7 (eCall m__law_field (aCons (eVar 5) (aCons (eVar 6) aNil))))
  (sSeq (sIf (tOr (tB (eBin dLt (eBin dMulI (eVar 5) (eVar 6)) (eC (.int 3)))) (tB (eBin dGt (eBl (d1 lenD) (aCons (eBin dItem (eVar 7) (eC (.int 1))) aNil)) (eC (.int 16))))) (sRet (eBin dEq (eCall m__law_caught (aCons (eC (.int 2)) (aCons (eFz (eLst (aCons (eVar 5) (aCons (eVar 6) aNil)))) aNil))) (eC (.str (Str.ofString "count"))))) sNil)
  (sSeq (sIf (tOr (tB (eBin dNe (eCall m__law_caught (aCons (eC (.int 2)) (aCons (eFz (eLst (aCons (eVar 5) (aCons (eVar 6) aNil)))) aNil))) (eC (.str (Str.ofString ""))))) (tOr (tB (eBin dNe (eCall m_field (aCons (eVar 5) (aCons (eVar 6) aNil))) (eVar 7))) (tNot (tTru (eCall m__law_is_world (aCons (eVar 7) aNil)))))) (sRet (eC (.bool false))) sNil)
  (sSeq (sSet 8 (eBin dItem (eLst (aCons (eC (.int 2)) (aCons (eC (.int 11)) (aCons (eC (.int 0)) (aCons (eNeg (eC (.int 1))) (aCons (eC .none) (aCons (eC (.bool true)) (aCons (eC (.str (Str.ofString "3"))) (aCons (eC (.int 9)) aNil))))))))) (eBin dMod (eCall m__law_cell (aCons (eVar 0) (aCons (eC (.int 4)) aNil))) (eC (.int 8)))))
  (sSeq (sIf (tOr (tB (eBin dNe (eCall m__law_caught (aCons (eC (.int 0)) (aCons (eFz (eLst (aCons (eVar 8) aNil))) aNil))) (eIf (tB (eBin dNe (eVar 8) (eC (.int 9)))) (eC (.str (Str.ofString "count"))) (eC (.str (Str.ofString "")))))) (tB (eBin dNe (eCall m__law_caught (aCons (eC (.int 1)) (aCons (eFz (eLst (aCons (eVar 8) aNil))) aNil))) (eC (.str (Str.ofString "count")))))) (sRet (eC (.bool false))) sNil)
  (sRet (eAnd (eBin dEq (eCall m__law_caught (aCons (eC (.int 2)) (aCons (eFz (eLst (aCons (eVar 8) (aCons (eC (.int 3)) aNil)))) aNil))) (eIf (tB (eBin dNe (eVar 8) (eC (.int 2)))) (eC (.str (Str.ofString "count"))) (eC (.str (Str.ofString ""))))) (eBin dEq (eCall m__law_caught (aCons (eC (.int 2)) (aCons (eFz (eLst (aCons (eC (.int 4)) (aCons (eC (.int 3)) aNil)))) aNil))) (eC (.str (Str.ofString "count"))))))))))))))))))))
def b_law_0 : Env → SR := (sSet 1 (eBin dAdd (eC (.int 3)) (eBin dMod (eCall m__law_cell (aCons (eVar 0) (aCons (eC (.int 0)) aNil))) (eC (.int 8)))))
def b_law_1 : Env → SR := (sIf (tB (eBin dNe (eCall m__law_caught (aCons (eC (.int 0)) (aCons (eFz (eLst (aCons (eVar 1) aNil))) aNil))) (eC (.str (Str.ofString ""))))) (sRet (eC (.bool false))) sNil)
def b_law_2 : Env → SR := (sIf (tB (eBin dNe (eCall m_line (aCons (eVar 1) aNil)) (eCall m__law_both (aCons (eVar 1) (aCons (eFz (eLc [2] (iR1 (eBin dSub (eVar 1) (eC (.int 2)))) (gNm 2) ftYes (eTup (aCons (eVar 2) (aCons (eBin dAdd (eVar 2) (eC (.int 1))) (aCons (eBin dAdd (eVar 2) (eC (.int 2))) aNil)))))) aNil))))) (sRet (eC (.bool false))) sNil)
def b_law_3 : Env → SR := (sSet 3 (eBin dAdd (eC (.int 3)) (eBin dMod (eCall m__law_cell (aCons (eVar 0) (aCons (eC (.int 1)) aNil))) (eC (.int 6)))))
def b_law_4 : Env → SR := (sOwn 4 (eLc [2] (iR1 (eVar 3)) (gNm 2) ftYes (eTup (aCons (eVar 2) (aCons (eBin dMod (eBin dAdd (eVar 2) (eC (.int 1))) (eVar 3)) (aCons (eBin dMod (eBin dAdd (eVar 2) (eC (.int 2))) (eVar 3)) aNil))))))
def b_law_5 : Env → SR := (sIf (tOr (tB (eBin dNe (eCall m__law_caught (aCons (eC (.int 1)) (aCons (eFz (eLst (aCons (eVar 3) aNil))) aNil))) (eC (.str (Str.ofString ""))))) (tB (eBin dNe (eCall m_ring (aCons (eVar 3) aNil)) (eCall m__law_both (aCons (eVar 3) (aCons (eVar 4) aNil)))))) (sRet (eC (.bool false))) sNil)
def b_law_6 : Env → SR := (sSet 5 (eBin dAdd (eC (.int 1)) (eBin dMod (eCall m__law_cell (aCons (eVar 0) (aCons (eC (.int 2)) aNil))) (eC (.int 12)))))
def b_law_7 : Env → SR := (sSet 6 (eBin dAdd (eC (.int 1)) (eCall m__law_mix (aCons (eCall m__law_cell (aCons (eVar 0) (aCons (eC (.int 3)) aNil))) (aCons (eC (.int 9949)) (aCons (eBin dFdiv (eC (.int 12)) (eVar 5)) aNil))))))
def b_law_8 : Env → SR := (sSet 7 (eCall m__law_field (aCons (eVar 5) (aCons (eVar 6) aNil))))
def b_law_9 : Env → SR := (sIf (tOr (tB (eBin dLt (eBin dMulI (eVar 5) (eVar 6)) (eC (.int 3)))) (tB (eBin dGt (eBl (d1 lenD) (aCons (eBin dItem (eVar 7) (eC (.int 1))) aNil)) (eC (.int 16))))) (sRet (eBin dEq (eCall m__law_caught (aCons (eC (.int 2)) (aCons (eFz (eLst (aCons (eVar 5) (aCons (eVar 6) aNil)))) aNil))) (eC (.str (Str.ofString "count"))))) sNil)
def b_law_10 : Env → SR := (sIf (tOr (tB (eBin dNe (eCall m__law_caught (aCons (eC (.int 2)) (aCons (eFz (eLst (aCons (eVar 5) (aCons (eVar 6) aNil)))) aNil))) (eC (.str (Str.ofString ""))))) (tOr (tB (eBin dNe (eCall m_field (aCons (eVar 5) (aCons (eVar 6) aNil))) (eVar 7))) (tNot (tTru (eCall m__law_is_world (aCons (eVar 7) aNil)))))) (sRet (eC (.bool false))) sNil)
def b_law_11 : Env → SR := (sSet 8 (eBin dItem (eLst (aCons (eC (.int 2)) (aCons (eC (.int 11)) (aCons (eC (.int 0)) (aCons (eNeg (eC (.int 1))) (aCons (eC .none) (aCons (eC (.bool true)) (aCons (eC (.str (Str.ofString "3"))) (aCons (eC (.int 9)) aNil))))))))) (eBin dMod (eCall m__law_cell (aCons (eVar 0) (aCons (eC (.int 4)) aNil))) (eC (.int 8)))))
def b_law_12 : Env → SR := (sIf (tOr (tB (eBin dNe (eCall m__law_caught (aCons (eC (.int 0)) (aCons (eFz (eLst (aCons (eVar 8) aNil))) aNil))) (eIf (tB (eBin dNe (eVar 8) (eC (.int 9)))) (eC (.str (Str.ofString "count"))) (eC (.str (Str.ofString "")))))) (tB (eBin dNe (eCall m__law_caught (aCons (eC (.int 1)) (aCons (eFz (eLst (aCons (eVar 8) aNil))) aNil))) (eC (.str (Str.ofString "count")))))) (sRet (eC (.bool false))) sNil)
def b_law_13 : Env → SR := (sRet (eAnd (eBin dEq (eCall m__law_caught (aCons (eC (.int 2)) (aCons (eFz (eLst (aCons (eVar 8) (aCons (eC (.int 3)) aNil)))) aNil))) (eIf (tB (eBin dNe (eVar 8) (eC (.int 2)))) (eC (.str (Str.ofString "count"))) (eC (.str (Str.ofString ""))))) (eBin dEq (eCall m__law_caught (aCons (eC (.int 2)) (aCons (eFz (eLst (aCons (eC (.int 4)) (aCons (eC (.int 3)) aNil)))) aNil))) (eC (.str (Str.ofString "count"))))))
theorem b_law_eq : b_law = (sSeq b_law_0 (sSeq b_law_1 (sSeq b_law_2 (sSeq b_law_3 (sSeq b_law_4 (sFrz 4 (sSeq b_law_5 (sSeq b_law_6 (sSeq b_law_7 (sSeq b_law_8 (sSeq b_law_9 (sSeq b_law_10 (sSeq b_law_11 (sSeq b_law_12 b_law_13)))))))))))))) := rfl
def m_law : List Da → R Da := fnD 1 9 b_law
structure Fx (cls : String → Value) (K : PySem.W.Frag) (mg : Str → Option Value) : Prop where
  z_len : mg "len" = none
  z_isinstance : mg "isinstance" = none
  z_bool : mg "bool" = none
  z_int : mg "int" = none
  z_sorted : mg "sorted" = none
  z_tuple : mg "tuple" = none
  z_range : mg "range" = none
  z_zip : mg "zip" = none
  c_MOST_CELLS : ∃ t, mg "MOST_CELLS" = some (.int 12 t)
  c_MOST_JUMPS : ∃ t, mg "MOST_JUMPS" = some (.int 16 t)
  x_BadCount : ExF K mg cls "BadCount" "BadCount"
  gc_TooMany : mg "TooMany" = some (cls "TooMany")
  xm_TooMany : ∀ c ∈ excL, PySem.W.exmOne K (cls c) (cls "TooMany") = some (subJ c "TooMany")
  gc_BadText : mg "BadText" = some (cls "BadText")
  xm_BadText : ∀ c ∈ excL, PySem.W.exmOne K (cls c) (cls "BadText") = some (subJ c "BadText")
  gc_BadNames : mg "BadNames" = some (cls "BadNames")
  xm_BadNames : ∀ c ∈ excL, PySem.W.exmOne K (cls c) (cls "BadNames") = some (subJ c "BadNames")
  gc_BadCount : mg "BadCount" = some (cls "BadCount")
  xm_BadCount : ∀ c ∈ excL, PySem.W.exmOne K (cls c) (cls "BadCount") = some (subJ c "BadCount")
  gc_BadJump : mg "BadJump" = some (cls "BadJump")
  xm_BadJump : ∀ c ∈ excL, PySem.W.exmOne K (cls c) (cls "BadJump") = some (subJ c "BadJump")
  gc_BadStand : mg "BadStand" = some (cls "BadStand")
  xm_BadStand : ∀ c ∈ excL, PySem.W.exmOne K (cls c) (cls "BadStand") = some (subJ c "BadStand")
  gc_BadWorld : mg "BadWorld" = some (cls "BadWorld")
  xm_BadWorld : ∀ c ∈ excL, PySem.W.exmOne K (cls c) (cls "BadWorld") = some (subJ c "BadWorld")
  r__law_cell : Raw K mg "_law_cell" s__law_cell
  r_is_within : Raw K mg "is_within" s_is_within
  r_both_ways : Raw K mg "both_ways" s_both_ways
  r_line : Raw K mg "line" s_line
  r_ring : Raw K mg "ring" s_ring
  r_field : Raw K mg "field" s_field
  r__law_called : Raw K mg "_law_called" s__law_called
  r__law_called_then : Raw K mg "_law_called_then" s__law_called_then
  r__law_caught : Raw K mg "_law_caught" s__law_caught
  r__law_both : Raw K mg "_law_both" s__law_both
  r__law_mix : Raw K mg "_law_mix" s__law_mix
  r__law_field : Raw K mg "_law_field" s__law_field
  r__law_in : Raw K mg "_law_in" s__law_in
  r__law_is_world : Raw K mg "_law_is_world" s__law_is_world
  r_law : Raw K mg "law" s_law
section
variable {cls : String → Value} {P : Program} {w : World} {K : PySem.W.Frag} {mg : Str → Option Value} {base : Heap}
theorem d__law_cell (fx : Fx cls K mg) : Def cls P w K mg base "_law_cell" 1 m__law_cell := by
  refine mkDef (N := ["script", "k"]) (ps := ["script", "k"]) (k := 0) (g := b__law_cell) fx.r__law_cell sc__law_cell (fun _ _ _ _ _ _ us hl => match us, hl with | [_, _], _ => rfl) fun X E f cdv A outer s H eX hr tk hp => ?_
  subst eX
  exact (dss_cons (ds_if (dt_cmp o_lt (DE.r (de_var 1)) (DE.r (de_bltB c_len (fx.z_len) (by decide +kernel) (db_cons (DE.r (de_var 0)) db_nil)))) (dss_one (ds_ret (de_item (DE.r (de_var 0)) (DE.r (de_var 1))))) dss_nil)
  (dss_one (ds_ret de_int)))
theorem d_is_within (fx : Fx cls K mg) : Def cls P w K mg base "is_within" 1 m_is_within := by
  refine mkDef (N := ["thing", "low", "high"]) (ps := ["thing", "low", "high"]) (k := 0) (g := b_is_within) fx.r_is_within sc_is_within (fun _ _ _ _ _ _ us hl => match us, hl with | [_, _, _], _ => rfl) fun X E f cdv A outer s H eX hr tk hp => ?_
  subst eX
  exact (dss_one (ds_ret (de_and (de_isi kn_int (fx.z_isinstance) (fx.z_int) (by decide +kernel) (DE.r (de_var 0))) (de_and (de_not (DE.r (de_isi kn_bool (fx.z_isinstance) (fx.z_bool) (by decide +kernel) (DE.r (de_var 0))))) (de_one (de_chain o_le o_le (DE.r (de_var 1)) (DE.r (de_var 0)) (DE.r (de_var 2))))))))
theorem d_both_ways (fx : Fx cls K mg) : Def cls P w K mg base "both_ways" 1 m_both_ways := by
  refine mkDef (N := ["many", "rows", "row"]) (ps := ["many", "rows"]) (k := 0) (g := b_both_ways) fx.r_both_ways sc_both_ways (fun _ _ _ _ _ _ us hl => match us, hl with | [_, _], _ => rfl) fun X E f cdv A outer s H eX hr tk hp => ?_
  subst eX
  exact (dss_one (ds_ret (de_tup (da_cons (de_var 0) (da_cons (de_bltT c_tuple (fx.z_tuple) (by decide +kernel) (db_cons (DF.r (df_bltB (c_sorted hr) (fx.z_sorted) (by decide +kernel) (db_cons (DE.r (de_op o_add (DE.r (de_var 1)) (DF.r (df_lc [("row", 2)] sc_both_ways.nd (di_any (de_var 1)) (blkOk_by (by kernel_rfl)) (fun s0 H0 C0 cl0 fp0 => (dgw_name 2 sc_both_ways.nd)) (fun s0 H0 C0 cl0 fp0 => dts_nil) (fun s0 H0 C0 cl0 fp0 => (de_rev (DE.r (de_var 2)))))))) db_nil))) db_nil)) da_nil)))))
theorem d_line (fx : Fx cls K mg) (g_is_within : Def cls P w K mg base "is_within" 1 m_is_within) (g_both_ways : Def cls P w K mg base "both_ways" 1 m_both_ways) : Def cls P w K mg base "line" 2 m_line := by
  refine mkDef (N := ["many", "cell"]) (ps := ["many"]) (k := 1) (g := b_line) fx.r_line sc_line (fun _ _ _ _ _ _ us hl => match us, hl with | [_], _ => rfl) fun X E f cdv A outer s H eX hr tk hp => ?_
  subst eX
  exact (dss_cons (ds_if (dt_not (dt_tru (DE.r (de_call g_is_within (Room.mono hr (by decide)) tk (da_cons (de_var 0) (da_cons de_int (da_cons de_int da_nil))))))) (dss_one (ds_raise (fx.x_BadCount) tk)) dss_nil)
  (dss_one (ds_ret (de_call g_both_ways (Room.mono hr (by decide)) tk (da_cons (de_var 0) (da_cons (DF.e (df_lc [("cell", 1)] sc_line.nd (di_r1 (fx.z_range) (de_op o_sub (DE.r (de_var 0)) (DE.r de_int))) (blkOk_by (by kernel_rfl)) (fun s0 H0 C0 cl0 fp0 => (dgw_name 1 sc_line.nd)) (fun s0 H0 C0 cl0 fp0 => dts_nil) (fun s0 H0 C0 cl0 fp0 => (de_tup (da_cons (de_var 1) (da_cons (de_op o_add (DE.r (de_var 1)) (DE.r de_int)) (da_cons (de_op o_add (DE.r (de_var 1)) (DE.r de_int)) da_nil))))))) da_nil))))))
theorem d_ring (fx : Fx cls K mg) (g_is_within : Def cls P w K mg base "is_within" 1 m_is_within) (g_both_ways : Def cls P w K mg base "both_ways" 1 m_both_ways) : Def cls P w K mg base "ring" 2 m_ring := by
  refine mkDef (N := ["many", "cell"]) (ps := ["many"]) (k := 1) (g := b_ring) fx.r_ring sc_ring (fun _ _ _ _ _ _ us hl => match us, hl with | [_], _ => rfl) fun X E f cdv A outer s H eX hr tk hp => ?_
  subst eX
  exact (dss_cons (ds_if (dt_not (dt_tru (DE.r (de_call g_is_within (Room.mono hr (by decide)) tk (da_cons (de_var 0) (da_cons de_int (da_cons de_int da_nil))))))) (dss_one (ds_raise (fx.x_BadCount) tk)) dss_nil)
  (dss_one (ds_ret (de_call g_both_ways (Room.mono hr (by decide)) tk (da_cons (de_var 0) (da_cons (DF.e (df_lc [("cell", 1)] sc_ring.nd (di_r1 (fx.z_range) (de_var 0)) (blkOk_by (by kernel_rfl)) (fun s0 H0 C0 cl0 fp0 => (dgw_name 1 sc_ring.nd)) (fun s0 H0 C0 cl0 fp0 => dts_nil) (fun s0 H0 C0 cl0 fp0 => (de_tup (da_cons (de_var 1) (da_cons (de_op o_mod (DE.r (de_op o_add (DE.r (de_var 1)) (DE.r de_int))) (DE.r (de_var 0))) (da_cons (de_op o_mod (DE.r (de_op o_add (DE.r (de_var 1)) (DE.r de_int))) (DE.r (de_var 0))) da_nil))))))) da_nil))))))
theorem d_field (fx : Fx cls K mg) (g_is_within : Def cls P w K mg base "is_within" 1 m_is_within) (g_both_ways : Def cls P w K mg base "both_ways" 1 m_both_ways) : Def cls P w K mg base "field" 2 m_field := by
  obtain ⟨t_MOST_CELLS, h_MOST_CELLS⟩ := fx.c_MOST_CELLS
  obtain ⟨t_MOST_JUMPS, h_MOST_JUMPS⟩ := fx.c_MOST_JUMPS
  refine mkDef (N := ["wide", "high", "rows", "down", "at"]) (ps := ["wide", "high"]) (k := 1) (g := b_field) fx.r_field sc_field (fun _ _ _ _ _ _ us hl => match us, hl with | [_, _], _ => rfl) fun X E f cdv A outer s H eX hr tk hp => ?_
  subst eX
  exact (dss_cons (ds_if (DW.t (dw_or (dt_not (dt_tru (DE.r (de_call g_is_within (Room.mono hr (by decide)) tk (da_cons (de_var 0) (da_cons de_int (da_cons (de_globI h_MOST_CELLS) da_nil))))))) (dw_or (dt_not (dt_tru (DE.r (de_call g_is_within (Room.mono hr (by decide)) tk (da_cons (de_var 1) (da_cons de_int (da_cons (de_globI h_MOST_CELLS) da_nil))))))) (dw_or1 (dt_not (dt_chain o_le o_le (DE.r de_int) (DE.r (de_op o_mulI (DE.r (de_var 0)) (DE.r (de_var 1)))) (DE.r (de_globI h_MOST_CELLS)))))))) (dss_one (ds_raise (fx.x_BadCount) tk)) dss_nil)
  (dss_cons (ds_own 2 sc_field.nd (df_lst da_nil))
  (dss_cons (ds_for hp (di_r1 (fx.z_range) (de_var 1)) (dg_name 3 sc_field.nd) (dss_one (ds_ext 2 (df_lc [("at", 4)] sc_field.nd (di_r1 (fx.z_range) (de_op o_sub (DE.r (de_var 0)) (DE.r de_int))) (blkOk_by (by kernel_rfl)) (fun s0 H0 C0 cl0 fp0 => (dgw_name 4 sc_field.nd)) (fun s0 H0 C0 cl0 fp0 => dts_nil) (fun s0 H0 C0 cl0 fp0 => (de_tup (da_cons (de_op o_add (DE.r (de_op o_mulI (DE.r (de_var 0)) (DE.r (de_var 3)))) (DE.r (de_var 4))) (da_cons (de_op o_add (DE.r (de_op o_add (DE.r (de_op o_mulI (DE.r (de_var 0)) (DE.r (de_var 3)))) (DE.r (de_var 4)))) (DE.r de_int)) (da_cons (de_op o_add (DE.r (de_op o_add (DE.r (de_op o_mulI (DE.r (de_var 0)) (DE.r (de_var 3)))) (DE.r (de_var 4)))) (DE.r de_int)) da_nil)))))))))
  (dss_cons (ds_for hp (di_r1 (fx.z_range) (de_op o_sub (DE.r (de_var 1)) (DE.r de_int))) (dg_name 3 sc_field.nd) (dss_one (ds_ext 2 (df_lc [("at", 4)] sc_field.nd (di_r1 (fx.z_range) (de_var 0)) (blkOk_by (by kernel_rfl)) (fun s0 H0 C0 cl0 fp0 => (dgw_name 4 sc_field.nd)) (fun s0 H0 C0 cl0 fp0 => dts_nil) (fun s0 H0 C0 cl0 fp0 => (de_tup (da_cons (de_op o_add (DE.r (de_op o_mulI (DE.r (de_var 0)) (DE.r (de_var 3)))) (DE.r (de_var 4))) (da_cons (de_op o_add (DE.r (de_op o_add (DE.r (de_op o_mulI (DE.r (de_var 0)) (DE.r (de_var 3)))) (DE.r (de_var 4)))) (DE.r (de_var 0))) (da_cons (de_op o_add (DE.r (de_op o_mulI (DE.r (de_var 0)) (DE.r (de_op o_add (DE.r (de_var 3)) (DE.r de_int))))) (DE.r (de_var 4))) da_nil)))))))))
  (dss_cons (ds_if (dt_cmp o_gt (DE.r (de_op o_mulI (DE.r de_int) (DE.r (de_bltB c_len (fx.z_len) (by decide +kernel) (db_cons (dr_var 2) db_nil))))) (DE.r (de_globI h_MOST_JUMPS))) (dss_one (ds_raise (fx.x_BadCount) tk)) dss_nil)
  (dss_one (ds_frz 2 (ds_ret (de_call g_both_ways (Room.mono hr (by decide)) tk (da_cons (de_op o_mulI (DE.r (de_var 0)) (DE.r (de_var 1))) (da_cons (de_var 2) da_nil)))))))))))
theorem d__law_called (fx : Fx cls K mg) (g_line : Def cls P w K mg base "line" 2 m_line) (g_ring : Def cls P w K mg base "ring" 2 m_ring) (g_field : Def cls P w K mg base "field" 2 m_field) : Def cls P w K mg base "_law_called" 3 m__law_called := by
  refine mkDef (N := ["which", "a"]) (ps := ["which", "a"]) (k := 2) (g := b__law_called) fx.r__law_called sc__law_called (fun _ _ _ _ _ _ us hl => match us, hl with | [_, _], _ => rfl) fun X E f cdv A outer s H eX hr tk hp => ?_
  subst eX
  exact (dss_cons (ds_if (dt_cmp o_lt (DE.r (de_var 0)) (DE.r de_int)) (dss_cons (ds_if (dt_cmp o_lt (DE.r (de_var 0)) (DE.r de_int)) (dss_one (ds_ret (de_if (dt_cmp (o_eq hr) (DE.r (de_var 0)) (DE.r de_int)) (de_call g_line (Room.mono hr (by decide)) tk (da_cons (de_item (DE.r (de_var 1)) (DE.r de_int)) da_nil)) (de_call g_ring (Room.mono hr (by decide)) tk (da_cons (de_item (DE.r (de_var 1)) (DE.r de_int)) da_nil))))) dss_nil)
  (dss_one (ds_ret (de_if (dt_cmp (o_eq hr) (DE.r (de_var 0)) (DE.r de_int)) (de_call g_field (Room.mono hr (by decide)) tk (da_cons (de_item (DE.r (de_var 1)) (DE.r de_int)) (da_cons (de_item (DE.r (de_var 1)) (DE.r de_int)) da_nil))) de_no)))) dss_nil)
  (dss_cons (ds_if (dt_cmp o_lt (DE.r (de_var 0)) (DE.r de_int)) (dss_cons (ds_if (dt_cmp o_lt (DE.r (de_var 0)) (DE.r de_int)) (dss_one (ds_ret (de_if (dt_cmp (o_eq hr) (DE.r (de_var 0)) (DE.r de_int)) de_no de_no))) dss_nil)
  (dss_one (ds_ret (de_if (dt_cmp (o_eq hr) (DE.r (de_var 0)) (DE.r de_int)) de_no de_no)))) dss_nil)
  (dss_cons (ds_if (dt_cmp (o_eq hr) (DE.r (de_var 0)) (DE.r de_int)) (dss_one ds_no) dss_nil)
  (dss_one (ds_ret (de_if (dt_cmp (o_eq hr) (DE.r (de_var 0)) (DE.r de_int)) de_no de_no))))))
theorem d__law_called_then (fx : Fx cls K mg) : Def cls P w K mg base "_law_called_then" 1 m__law_called_then := by
  refine mkDef (N := ["which", "a"]) (ps := ["which", "a"]) (k := 0) (g := b__law_called_then) fx.r__law_called_then sc__law_called_then (fun _ _ _ _ _ _ us hl => match us, hl with | [_, _], _ => rfl) fun X E f cdv A outer s H eX hr tk hp => ?_
  subst eX
  exact (dss_cons (ds_if (dt_cmp o_lt (DE.r (de_var 0)) (DE.r de_int)) (dss_cons (ds_if (dt_cmp o_lt (DE.r (de_var 0)) (DE.r de_int)) (dss_one (ds_ret (de_if (dt_cmp (o_eq hr) (DE.r (de_var 0)) (DE.r de_int)) de_no de_no))) dss_nil)
  (dss_one (ds_ret (de_if (dt_cmp (o_eq hr) (DE.r (de_var 0)) (DE.r de_int)) de_no de_no)))) dss_nil)
  (dss_cons (ds_if (dt_cmp o_lt (DE.r (de_var 0)) (DE.r de_int)) (dss_cons (ds_if (dt_cmp (o_eq hr) (DE.r (de_var 0)) (DE.r de_int)) (dss_one ds_no) dss_nil)
  (dss_one (ds_ret (de_if (dt_cmp (o_eq hr) (DE.r (de_var 0)) (DE.r de_int)) de_no de_no)))) dss_nil)
  (dss_cons (ds_if (dt_cmp (o_eq hr) (DE.r (de_var 0)) (DE.r de_int)) (dss_one ds_no) dss_nil)
  (dss_one (ds_ret (de_if (dt_cmp (o_eq hr) (DE.r (de_var 0)) (DE.r de_int)) de_no de_no))))))
theorem d__law_caught (fx : Fx cls K mg) (g__law_called : Def cls P w K mg base "_law_called" 3 m__law_called) (g__law_called_then : Def cls P w K mg base "_law_called_then" 1 m__law_called_then) : Def cls P w K mg base "_law_caught" 4 m__law_caught := by
  refine mkDef (N := ["which", "a", "caught"]) (ps := ["which", "a"]) (k := 3) (g := b__law_caught) fx.r__law_caught sc__law_caught (fun _ _ _ _ _ _ us hl => match us, hl with | [_, _], _ => rfl) fun X E f cdv A outer s H eX hr tk hp => ?_
  subst eX
  exact (dss_cons (ds_set 2 sc__law_caught.nd de_str)
  (dss_cons (ds_try tk (fun W1 pn1 xe1 tk hp => (dss_one (ds_if (dt_cmp o_lt (DE.r (de_var 0)) (DE.r de_int)) (dss_one (ds_expr (de_call g__law_called (Room.mono hr (by decide)) tk (da_cons (de_var 0) (da_cons (de_var 1) da_nil))))) (dss_one (ds_expr (de_call g__law_called_then (Room.mono hr (by decide)) tk (da_cons (de_var 0) (da_cons (de_var 1) da_nil)))))))) (dhs_cons fx.gc_BadWorld fx.xm_BadWorld (fun a1 oe1 pn1 => (dss_one (ds_set 2 sc__law_caught.nd de_str))) (dhs_cons fx.gc_BadStand fx.xm_BadStand (fun a1 oe1 pn1 => (dss_one (ds_set 2 sc__law_caught.nd de_str))) (dhs_cons fx.gc_BadJump fx.xm_BadJump (fun a1 oe1 pn1 => (dss_one (ds_set 2 sc__law_caught.nd de_str))) (dhs_cons fx.gc_BadCount fx.xm_BadCount (fun a1 oe1 pn1 => (dss_one (ds_set 2 sc__law_caught.nd de_str))) (dhs_cons fx.gc_BadNames fx.xm_BadNames (fun a1 oe1 pn1 => (dss_one (ds_set 2 sc__law_caught.nd de_str))) (dhs_cons fx.gc_BadText fx.xm_BadText (fun a1 oe1 pn1 => (dss_one (ds_set 2 sc__law_caught.nd de_str))) (dhs_cons fx.gc_TooMany fx.xm_TooMany (fun a1 oe1 pn1 => (dss_one (ds_set 2 sc__law_caught.nd de_str))) dhs_nil))))))))
  (dss_one (ds_ret (de_var 2)))))
theorem d__law_both (fx : Fx cls K mg) : Def cls P w K mg base "_law_both" 1 m__law_both := by
  refine mkDef (N := ["many", "rows", "some", "row"]) (ps := ["many", "rows"]) (k := 0) (g := b__law_both) fx.r__law_both sc__law_both (fun _ _ _ _ _ _ us hl => match us, hl with | [_, _], _ => rfl) fun X E f cdv A outer s H eX hr tk hp => ?_
  subst eX
  exact (dss_cons (ds_set 2 sc__law_both.nd (DF.e (df_lst da_nil)))
  (dss_cons (ds_for hp (di_any (de_var 1)) (dg_name 3 sc__law_both.nd) (dss_one (ds_set 2 sc__law_both.nd (de_op o_add (DE.r (de_var 2)) (DF.r (df_lst (da_cons (de_var 3) (da_cons (de_tup (da_cons (de_item (DE.r (de_var 3)) (DE.r de_int)) (da_cons (de_item (DE.r (de_var 3)) (DE.r de_int)) (da_cons (de_item (DE.r (de_var 3)) (DE.r de_int)) da_nil)))) da_nil))))))))
  (dss_one (ds_ret (de_tup (da_cons (de_var 0) (da_cons (de_bltT c_tuple (fx.z_tuple) (by decide +kernel) (db_cons (DF.r (df_bltB (c_sorted hr) (fx.z_sorted) (by decide +kernel) (db_cons (DE.r (de_var 2)) db_nil))) db_nil)) da_nil)))))))
theorem d__law_mix (fx : Fx cls K mg) : Def cls P w K mg base "_law_mix" 1 m__law_mix := by
  refine mkDef (N := ["cell", "prime", "many"]) (ps := ["cell", "prime", "many"]) (k := 0) (g := b__law_mix) fx.r__law_mix sc__law_mix (fun _ _ _ _ _ _ us hl => match us, hl with | [_, _, _], _ => rfl) fun X E f cdv A outer s H eX hr tk hp => ?_
  subst eX
  exact (dss_one (ds_ret (de_op o_mod (DE.r (de_op o_mod (DE.r (de_op o_pow (DE.r (de_op o_mod (DE.r (de_op o_mulI (DE.r (de_var 0)) (DE.r de_int))) (DE.r (de_var 1)))) (DE.r de_int))) (DE.r (de_var 1)))) (DE.r (de_var 2)))))
theorem d__law_field (fx : Fx cls K mg) (g__law_both : Def cls P w K mg base "_law_both" 1 m__law_both) : Def cls P w K mg base "_law_field" 2 m__law_field := by
  refine mkDef (N := ["wide", "high", "rows", "cell"]) (ps := ["wide", "high"]) (k := 1) (g := b__law_field) fx.r__law_field sc__law_field (fun _ _ _ _ _ _ us hl => match us, hl with | [_, _], _ => rfl) fun X E f cdv A outer s H eX hr tk hp => ?_
  subst eX
  exact (dss_cons (ds_own 2 sc__law_field.nd (df_lst da_nil))
  (dss_cons (ds_for hp (di_r1 (fx.z_range) (de_op o_mulI (DE.r (de_var 0)) (DE.r (de_var 1)))) (dg_name 3 sc__law_field.nd) (dss_cons (ds_if (dt_cmp o_lt (DE.r (de_op o_add (DE.r (de_op o_mod (DE.r (de_var 3)) (DE.r (de_var 0)))) (DE.r de_int))) (DE.r (de_var 0))) (dss_one (ds_app 2 (de_tup (da_cons (de_var 3) (da_cons (de_op o_add (DE.r (de_var 3)) (DE.r de_int)) (da_cons (de_op o_add (DE.r (de_var 3)) (DE.r de_int)) da_nil)))))) dss_nil)
  (dss_one (ds_if (dt_cmp o_lt (DE.r (de_op o_add (DE.r (de_var 3)) (DE.r (de_op o_mulI (DE.r de_int) (DE.r (de_var 0)))))) (DE.r (de_op o_mulI (DE.r (de_var 0)) (DE.r (de_var 1))))) (dss_one (ds_app 2 (de_tup (da_cons (de_var 3) (da_cons (de_op o_add (DE.r (de_var 3)) (DE.r (de_var 0))) (da_cons (de_op o_add (DE.r (de_var 3)) (DE.r (de_op o_mulI (DE.r de_int) (DE.r (de_var 0))))) da_nil)))))) dss_nil))))
  (dss_one (ds_frz 2 (ds_ret (de_call g__law_both (Room.mono hr (by decide)) tk (da_cons (de_op o_mulI (DE.r (de_var 0)) (DE.r (de_var 1))) (da_cons (de_var 2) da_nil))))))))
theorem d__law_in (fx : Fx cls K mg) : Def cls P w K mg base "_law_in" 1 m__law_in := by
  refine mkDef (N := ["thing", "low", "high"]) (ps := ["thing", "low", "high"]) (k := 0) (g := b__law_in) fx.r__law_in sc__law_in (fun _ _ _ _ _ _ us hl => match us, hl with | [_, _, _], _ => rfl) fun X E f cdv A outer s H eX hr tk hp => ?_
  subst eX
  exact (dss_one (ds_ret (de_and (de_isi kn_int (fx.z_isinstance) (fx.z_int) (by decide +kernel) (DE.r (de_var 0))) (de_and (de_not (DE.r (de_isi kn_bool (fx.z_isinstance) (fx.z_bool) (by decide +kernel) (DE.r (de_var 0))))) (de_one (de_chain o_le o_le (DE.r (de_var 1)) (DE.r (de_var 0)) (DE.r (de_var 2))))))))
theorem d__law_is_world (fx : Fx cls K mg) (g__law_in : Def cls P w K mg base "_law_in" 1 m__law_in) : Def cls P w K mg base "_law_is_world" 2 m__law_is_world := by
  refine mkDef (N := ["thing", "jump", "one", "other"]) (ps := ["thing"]) (k := 1) (g := b__law_is_world) fx.r__law_is_world sc__law_is_world (fun _ _ _ _ _ _ us hl => match us, hl with | [_], _ => rfl) fun X E f cdv A outer s H eX hr tk hp => ?_
  subst eX
  exact (dss_cons (ds_if (DW.t (dw_or (dt_not (dt_tru (DE.r (de_isi kn_tuple (fx.z_isinstance) (fx.z_tuple) (by decide +kernel) (DE.r (de_var 0)))))) (dw_or (dt_cmp (o_ne hr) (DE.r (de_bltB c_len (fx.z_len) (by decide +kernel) (db_cons (DE.r (de_var 0)) db_nil))) (DE.r de_int)) (dw_or1 (dt_not (dt_tru (DE.r (de_call g__law_in (Room.mono hr (by decide)) tk (da_cons (de_item (DE.r (de_var 0)) (DE.r de_int)) (da_cons de_int (da_cons de_int da_nil))))))))))) (dss_one (ds_ret de_bl)) dss_nil)
  (dss_cons (ds_if (DW.t (dw_or (dt_not (dt_tru (DE.r (de_isi kn_tuple (fx.z_isinstance) (fx.z_tuple) (by decide +kernel) (DE.r (de_item (DE.r (de_var 0)) (DE.r de_int))))))) (dw_or1 (dt_cmp o_gt (DE.r (de_bltB c_len (fx.z_len) (by decide +kernel) (db_cons (DE.r (de_item (DE.r (de_var 0)) (DE.r de_int))) db_nil))) (DE.r de_int))))) (dss_one (ds_ret de_bl)) dss_nil)
  (dss_cons (ds_for hp (di_any (de_item (DE.r (de_var 0)) (DE.r de_int))) (dg_name 1 sc__law_is_world.nd) (dss_cons (ds_if (DW.t (dw_or (dt_not (dt_tru (DE.r (de_isi kn_tuple (fx.z_isinstance) (fx.z_tuple) (by decide +kernel) (DE.r (de_var 1)))))) (dw_or1 (dt_cmp (o_ne hr) (DE.r (de_bltB c_len (fx.z_len) (by decide +kernel) (db_cons (DE.r (de_var 1)) db_nil))) (DE.r de_int))))) (dss_one (ds_ret de_bl)) dss_nil)
  (dss_cons (ds_if (dt_cmp (o_ne hr) (DF.r (df_lc [("one", 2)] sc__law_is_world.nd (di_any (de_var 1)) (blkOk_by (by kernel_rfl)) (fun s0 H0 C0 cl0 fp0 => (dgw_name 2 sc__law_is_world.nd)) (fun s0 H0 C0 cl0 fp0 => (dts_one (dt_not (dt_tru (DE.r (de_call g__law_in (Room.mono hr (by decide)) takes0 (da_cons (de_var 2) (da_cons de_int (da_cons (de_op o_sub (DE.r (de_item (DE.r (de_var 0)) (DE.r de_int))) (DE.r de_int)) da_nil))))))))) (fun s0 H0 C0 cl0 fp0 => (de_var 2)))) (DF.r (df_lst da_nil))) (dss_one (ds_ret de_bl)) dss_nil)
  (dss_one (ds_if (DW.t (dw_or (dt_cmp (o_eq hr) (DE.r (de_item (DE.r (de_var 1)) (DE.r de_int))) (DE.r (de_item (DE.r (de_var 1)) (DE.r de_int)))) (dw_or (dt_cmp (o_eq hr) (DE.r (de_item (DE.r (de_var 1)) (DE.r de_int))) (DE.r (de_item (DE.r (de_var 1)) (DE.r de_int)))) (dw_or1 (dt_cmp (o_eq hr) (DE.r (de_item (DE.r (de_var 1)) (DE.r de_int))) (DE.r (de_item (DE.r (de_var 1)) (DE.r de_int)))))))) (dss_one (ds_ret de_bl)) dss_nil)))))
  (dss_one (ds_ret (de_cmp (o_eq hr) (DF.r (df_lc [("one", 2), ("other", 3)] sc__law_is_world.nd (di_zip (fx.z_zip) (de_item (DE.r (de_var 0)) (DE.r de_int)) (de_slice (DE.r (de_item (DE.r (de_var 0)) (DE.r de_int))) (do_some de_int) do_none)) (blkOk_by (by kernel_rfl)) (fun s0 H0 C0 cl0 fp0 => (dgw_tup (dgsw_cons (dgw_name 2 sc__law_is_world.nd) (dgsw_cons (dgw_name 3 sc__law_is_world.nd) dgsw_nil)))) (fun s0 H0 C0 cl0 fp0 => (dts_one (dt_cmp (o_ge hr) (DE.r (de_var 2)) (DE.r (de_var 3))))) (fun s0 H0 C0 cl0 fp0 => de_int))) (DF.r (df_lst da_nil))))))))
theorem d_law (fx : Fx cls K mg) (g__law_cell : Def cls P w K mg base "_law_cell" 1 m__law_cell) (g__law_caught : Def cls P w K mg base "_law_caught" 4 m__law_caught) (g_line : Def cls P w K mg base "line" 2 m_line) (g__law_both : Def cls P w K mg base "_law_both" 1 m__law_both) (g_ring : Def cls P w K mg base "ring" 2 m_ring) (g__law_mix : Def cls P w K mg base "_law_mix" 1 m__law_mix) (g__law_field : Def cls P w K mg base "_law_field" 2 m__law_field) (g__law_is_world : Def cls P w K mg base "_law_is_world" 2 m__law_is_world) (g_field : Def cls P w K mg base "field" 2 m_field) : DefX cls P w K mg base "law" s_law 5 ["script"] m_law := by
  refine mkDefL (N := ["script", "long", "k", "about", "rows", "wide", "high", "due", "odd"]) (ps := ["script"]) (k := 4) (g := b_law) fx.r_law sc_law (fun _ _ _ _ _ _ us hl => match us, hl with | [_], _ => rfl) fun X E f cdv A outer s H eX hr tk hp => ?_
  subst eX
  exact (dss_cons (ds_set 1 sc_law.nd (de_op o_add (DE.r de_int) (DE.r (de_op o_mod (DE.r (de_call g__law_cell (Room.mono hr (by decide)) tk (da_cons (de_var 0) (da_cons de_int da_nil)))) (DE.r de_int)))))
  (dss_cons (ds_if (dt_cmp (o_ne hr) (DE.r (de_call g__law_caught (Room.mono hr (by decide)) tk (da_cons de_int (da_cons (DF.e (df_lst (da_cons (de_var 1) da_nil))) da_nil)))) (DE.r de_str)) (dss_one (ds_ret de_bl)) dss_nil)
  (dss_cons (ds_if (dt_cmp (o_ne hr) (DE.r (de_call g_line (Room.mono hr (by decide)) tk (da_cons (de_var 1) da_nil))) (DE.r (de_call g__law_both (Room.mono hr (by decide)) tk (da_cons (de_var 1) (da_cons (DF.e (df_lc [("k", 2)] sc_law.nd (di_r1 (fx.z_range) (de_op o_sub (DE.r (de_var 1)) (DE.r de_int))) (blkOk_by (by kernel_rfl)) (fun s0 H0 C0 cl0 fp0 => (dgw_name 2 sc_law.nd)) (fun s0 H0 C0 cl0 fp0 => dts_nil) (fun s0 H0 C0 cl0 fp0 => (de_tup (da_cons (de_var 2) (da_cons (de_op o_add (DE.r (de_var 2)) (DE.r de_int)) (da_cons (de_op o_add (DE.r (de_var 2)) (DE.r de_int)) da_nil))))))) da_nil))))) (dss_one (ds_ret de_bl)) dss_nil)
  (dss_cons (ds_set 3 sc_law.nd (de_op o_add (DE.r de_int) (DE.r (de_op o_mod (DE.r (de_call g__law_cell (Room.mono hr (by decide)) tk (da_cons (de_var 0) (da_cons de_int da_nil)))) (DE.r de_int)))))
  (dss_cons (ds_ownLc 4 [("k", 2)] sc_law.nd (di_r1 (fx.z_range) (de_var 3)) (blkOk_by (by kernel_rfl)) (fun s0 H0 C0 cl0 fp0 => (dgw_name 2 sc_law.nd)) (fun s0 H0 C0 cl0 fp0 => dts_nil) (fun s0 H0 C0 cl0 fp0 => (de_tup (da_cons (de_var 2) (da_cons (de_op o_mod (DE.r (de_op o_add (DE.r (de_var 2)) (DE.r de_int))) (DE.r (de_var 3))) (da_cons (de_op o_mod (DE.r (de_op o_add (DE.r (de_var 2)) (DE.r de_int))) (DE.r (de_var 3))) da_nil))))))
  (dss_frz 4 (dss_cons (ds_if (DW.t (dw_or (dt_cmp (o_ne hr) (DE.r (de_call g__law_caught (Room.mono hr (by decide)) tk (da_cons de_int (da_cons (DF.e (df_lst (da_cons (de_var 3) da_nil))) da_nil)))) (DE.r de_str)) (dw_or1 (dt_cmp (o_ne hr) (DE.r (de_call g_ring (Room.mono hr (by decide)) tk (da_cons (de_var 3) da_nil))) (DE.r (de_call g__law_both (Room.mono hr (by decide)) tk (da_cons (de_var 3) (da_cons (de_var 4) da_nil)))))))) (dss_one (ds_ret de_bl)) dss_nil)
  (dss_cons (ds_set 5 sc_law.nd (de_op o_add (DE.r de_int) (DE.r (de_op o_mod (DE.r (de_call g__law_cell (Room.mono hr (by decide)) tk (da_cons (de_var 0) (da_cons de_int da_nil)))) (DE.r de_int)))))
  (dss_cons (ds_set 6 sc_law.nd (de_op o_add (DE.r de_int) (DE.r (de_call g__law_mix (Room.mono hr (by decide)) tk (da_cons (de_call g__law_cell (Room.mono hr (by decide)) tk (da_cons (de_var 0) (da_cons de_int da_nil))) (da_cons de_int (da_cons (de_op o_fdiv (DE.r de_int) (DE.r (de_var 5))) da_nil)))))))
  (dss_cons (ds_set 7 sc_law.nd (de_call g__law_field (Room.mono hr (by decide)) tk (da_cons (de_var 5) (da_cons (de_var 6) da_nil))))
  (dss_cons (ds_if (DW.t (dw_or (dt_cmp o_lt (DE.r (de_op o_mulI (DE.r (de_var 5)) (DE.r (de_var 6)))) (DE.r de_int)) (dw_or1 (dt_cmp o_gt (DE.r (de_bltB c_len (fx.z_len) (by decide +kernel) (db_cons (DE.r (de_item (DE.r (de_var 7)) (DE.r de_int))) db_nil))) (DE.r de_int))))) (dss_one (ds_ret (de_cmp (o_eq hr) (DE.r (de_call g__law_caught (Room.mono hr (by decide)) tk (da_cons de_int (da_cons (DF.e (df_lst (da_cons (de_var 5) (da_cons (de_var 6) da_nil)))) da_nil)))) (DE.r de_str)))) dss_nil)
  (dss_cons (ds_if (DW.t (dw_or (dt_cmp (o_ne hr) (DE.r (de_call g__law_caught (Room.mono hr (by decide)) tk (da_cons de_int (da_cons (DF.e (df_lst (da_cons (de_var 5) (da_cons (de_var 6) da_nil)))) da_nil)))) (DE.r de_str)) (dw_or (dt_cmp (o_ne hr) (DE.r (de_call g_field (Room.mono hr (by decide)) tk (da_cons (de_var 5) (da_cons (de_var 6) da_nil)))) (DE.r (de_var 7))) (dw_or1 (dt_not (dt_tru (DE.r (de_call g__law_is_world (Room.mono hr (by decide)) tk (da_cons (de_var 7) da_nil))))))))) (dss_one (ds_ret de_bl)) dss_nil)
  (dss_cons (ds_set 8 sc_law.nd (de_item (DF.r (df_lst (da_cons de_int (da_cons de_int (da_cons de_int (da_cons (de_neg (DE.r de_int)) (da_cons de_non (da_cons de_bl (da_cons de_str (da_cons de_int da_nil)))))))))) (DE.r (de_op o_mod (DE.r (de_call g__law_cell (Room.mono hr (by decide)) tk (da_cons (de_var 0) (da_cons de_int da_nil)))) (DE.r de_int)))))
  (dss_cons (ds_if (DW.t (dw_or (dt_cmp (o_ne hr) (DE.r (de_call g__law_caught (Room.mono hr (by decide)) tk (da_cons de_int (da_cons (DF.e (df_lst (da_cons (de_var 8) da_nil))) da_nil)))) (DE.r (de_if (dt_cmp (o_ne hr) (DE.r (de_var 8)) (DE.r de_int)) de_str de_str))) (dw_or1 (dt_cmp (o_ne hr) (DE.r (de_call g__law_caught (Room.mono hr (by decide)) tk (da_cons de_int (da_cons (DF.e (df_lst (da_cons (de_var 8) da_nil))) da_nil)))) (DE.r de_str))))) (dss_one (ds_ret de_bl)) dss_nil)
  (dss_one (ds_ret (de_and (de_cmp (o_eq hr) (DE.r (de_call g__law_caught (Room.mono hr (by decide)) tk (da_cons de_int (da_cons (DF.e (df_lst (da_cons (de_var 8) (da_cons de_int da_nil)))) da_nil)))) (DE.r (de_if (dt_cmp (o_ne hr) (DE.r (de_var 8)) (DE.r de_int)) de_str de_str))) (de_one (de_cmp (o_eq hr) (DE.r (de_call g__law_caught (Room.mono hr (by decide)) tk (da_cons de_int (da_cons (DF.e (df_lst (da_cons de_int (da_cons de_int da_nil)))) da_nil)))) (DE.r de_str))))))))))))))))))))
/-- all of them -/
theorem d_all (fx : Fx cls K mg) : DefX cls P w K mg base "law" s_law 5 ["script"] m_law := by
  have g__law_cell : Def cls P w K mg base "_law_cell" 1 m__law_cell := d__law_cell fx 
  have g_is_within : Def cls P w K mg base "is_within" 1 m_is_within := d_is_within fx 
  have g_both_ways : Def cls P w K mg base "both_ways" 1 m_both_ways := d_both_ways fx 
  have g_line : Def cls P w K mg base "line" 2 m_line := d_line fx g_is_within g_both_ways
  have g_ring : Def cls P w K mg base "ring" 2 m_ring := d_ring fx g_is_within g_both_ways
  have g_field : Def cls P w K mg base "field" 2 m_field := d_field fx g_is_within g_both_ways
  have g__law_called : Def cls P w K mg base "_law_called" 3 m__law_called := d__law_called fx g_line g_ring g_field
  have g__law_called_then : Def cls P w K mg base "_law_called_then" 1 m__law_called_then := d__law_called_then fx 
  have g__law_caught : Def cls P w K mg base "_law_caught" 4 m__law_caught := d__law_caught fx g__law_called g__law_called_then
  have g__law_both : Def cls P w K mg base "_law_both" 1 m__law_both := d__law_both fx 
  have g__law_mix : Def cls P w K mg base "_law_mix" 1 m__law_mix := d__law_mix fx 
  have g__law_field : Def cls P w K mg base "_law_field" 2 m__law_field := d__law_field fx g__law_both
  have g__law_in : Def cls P w K mg base "_law_in" 1 m__law_in := d__law_in fx 
  have g__law_is_world : Def cls P w K mg base "_law_is_world" 2 m__law_is_world := d__law_is_world fx g__law_in
  exact d_law fx g__law_cell g__law_caught g_line g__law_both g_ring g__law_mix g__law_field g__law_is_world g_field
end
end Mi

/-! The head of law_k16_made, printed by gen.py. -/
namespace Mi
open PySem PySem.Spec PyProof.Rows L2
def dd__law_cell : He.DefD := ⟨("_law_cell", none), "_law_cell", "_law_cell", defArgs s__law_cell, defBody s__law_cell, defScope s__law_cell, [], []⟩
def dd_is_within : He.DefD := ⟨("is_within", none), "is_within", "is_within", defArgs s_is_within, defBody s_is_within, defScope s_is_within, [], []⟩
def dd_both_ways : He.DefD := ⟨("both_ways", none), "both_ways", "both_ways", defArgs s_both_ways, defBody s_both_ways, defScope s_both_ways, [], []⟩
def dd_line : He.DefD := ⟨("line", none), "line", "line", defArgs s_line, defBody s_line, defScope s_line, [], []⟩
def dd_ring : He.DefD := ⟨("ring", none), "ring", "ring", defArgs s_ring, defBody s_ring, defScope s_ring, [], []⟩
def dd_field : He.DefD := ⟨("field", none), "field", "field", defArgs s_field, defBody s_field, defScope s_field, [], []⟩
def dd__law_called : He.DefD := ⟨("_law_called", none), "_law_called", "_law_called", defArgs s__law_called, defBody s__law_called, defScope s__law_called, [], []⟩
def dd__law_called_then : He.DefD := ⟨("_law_called_then", none), "_law_called_then", "_law_called_then", defArgs s__law_called_then, defBody s__law_called_then, defScope s__law_called_then, [], []⟩
def dd__law_caught : He.DefD := ⟨("_law_caught", none), "_law_caught", "_law_caught", defArgs s__law_caught, defBody s__law_caught, defScope s__law_caught, [], []⟩
def dd__law_both : He.DefD := ⟨("_law_both", none), "_law_both", "_law_both", defArgs s__law_both, defBody s__law_both, defScope s__law_both, [], []⟩
def dd__law_mix : He.DefD := ⟨("_law_mix", none), "_law_mix", "_law_mix", defArgs s__law_mix, defBody s__law_mix, defScope s__law_mix, [], []⟩
def dd__law_field : He.DefD := ⟨("_law_field", none), "_law_field", "_law_field", defArgs s__law_field, defBody s__law_field, defScope s__law_field, [], []⟩
def dd__law_in : He.DefD := ⟨("_law_in", none), "_law_in", "_law_in", defArgs s__law_in, defBody s__law_in, defScope s__law_in, [], []⟩
def dd__law_is_world : He.DefD := ⟨("_law_is_world", none), "_law_is_world", "_law_is_world", defArgs s__law_is_world, defBody s__law_is_world, defScope s__law_is_world, [], []⟩
def dd_law : He.DefD := ⟨("law", none), "law", "law", defArgs s_law, defBody s_law, defScope s_law, [], []⟩
def fnL : List He.DefD := [dd__law_cell, dd_is_within, dd_both_ways, dd_line, dd_ring, dd_field, dd__law_called, dd__law_called_then, dd__law_caught, dd__law_both, dd__law_mix, dd__law_field, dd__law_in, dd__law_is_world, dd_law]
def faL : List He.Fa := [.glo "_law_cell", .glo "is_within", .glo "both_ways", .glo "line", .glo "ring", .glo "field", .glo "_law_called", .glo "_law_called_then", .glo "_law_caught", .glo "_law_both", .glo "_law_mix", .glo "_law_field", .glo "_law_in", .glo "_law_is_world", .glo "law", .free "len", .free "isinstance", .free "bool", .free "int", .free "sorted", .free "tuple", .free "range", .free "zip", .int "MOST_CELLS" 12, .int "MOST_JUMPS" 16, .glo "JumpError", .glo "BadWorld", .glo "BadStand", .glo "BadJump", .glo "BadCount", .glo "TooMany", .glo "BadText", .glo "BadNames", .glo "Nothing", .exc "BadCount", .exm "JumpError" "TooMany" false, .exm "BadWorld" "TooMany" false, .exm "BadStand" "TooMany" false, .exm "BadJump" "TooMany" false, .exm "BadCount" "TooMany" false, .exm "TooMany" "TooMany" true, .exm "BadText" "TooMany" false, .exm "BadNames" "TooMany" false, .exm "Nothing" "TooMany" false, .exm "JumpError" "BadText" false, .exm "BadWorld" "BadText" false, .exm "BadStand" "BadText" false, .exm "BadJump" "BadText" false, .exm "BadCount" "BadText" false, .exm "TooMany" "BadText" false, .exm "BadText" "BadText" true, .exm "BadNames" "BadText" false, .exm "Nothing" "BadText" false, .exm "JumpError" "BadNames" false, .exm "BadWorld" "BadNames" false, .exm "BadStand" "BadNames" false, .exm "BadJump" "BadNames" false, .exm "BadCount" "BadNames" false, .exm "TooMany" "BadNames" false, .exm "BadText" "BadNames" false, .exm "BadNames" "BadNames" true, .exm "Nothing" "BadNames" false, .exm "JumpError" "BadCount" false, .exm "BadWorld" "BadCount" false, .exm "BadStand" "BadCount" false, .exm "BadJump" "BadCount" false, .exm "BadCount" "BadCount" true, .exm "TooMany" "BadCount" false, .exm "BadText" "BadCount" false, .exm "BadNames" "BadCount" false, .exm "Nothing" "BadCount" false, .exm "JumpError" "BadJump" false, .exm "BadWorld" "BadJump" false, .exm "BadStand" "BadJump" false, .exm "BadJump" "BadJump" true, .exm "BadCount" "BadJump" false, .exm "TooMany" "BadJump" false, .exm "BadText" "BadJump" false, .exm "BadNames" "BadJump" false, .exm "Nothing" "BadJump" false, .exm "JumpError" "BadStand" false, .exm "BadWorld" "BadStand" false, .exm "BadStand" "BadStand" true, .exm "BadJump" "BadStand" false, .exm "BadCount" "BadStand" false, .exm "TooMany" "BadStand" false, .exm "BadText" "BadStand" false, .exm "BadNames" "BadStand" false, .exm "Nothing" "BadStand" false, .exm "JumpError" "BadWorld" false, .exm "BadWorld" "BadWorld" true, .exm "BadStand" "BadWorld" false, .exm "BadJump" "BadWorld" false, .exm "BadCount" "BadWorld" false, .exm "TooMany" "BadWorld" false, .exm "BadText" "BadWorld" false, .exm "BadNames" "BadWorld" false, .exm "Nothing" "BadWorld" false]
abbrev Ro : PySem.W.OpenRow := PySem.W.OpenLaw.row PySem.Challenge.rw_lastjump_k16_made
abbrev hk : PySem.W.Hook := He.hookD 4 faL fnL
def ob (s : PySem.W.SharedT) : He.AlD := He.obsDG 4 faL fnL (HandSHeadRun.getT s)
theorem ob_eq (s : PySem.W.SharedT) : ob s = hk.obs s.abs := He.obsDG_eq (HandSHeadRun.getT_eq s)
def nmL0 : List Str := ["_wall", "JumpError", "BadWorld", "BadStand", "BadJump", "BadCount", "TooMany", "BadText", "BadNames", "Nothing", "MOST_CELLS", "MOST_JUMPS", "is_within", "is_jump", "is_world"]
def nmL1 : List Str := ["look", "is_stand", "look_stand", "put", "has", "moves_of", "back_of", "after", "both_ways", "line", "ring", "field", "MOST_STANDS", "all_from", "all_to"]
def nmL2 : List Str := ["Board", "fewest_of", "fewest", "fewest_ends", "best_row", "never_fewer", "MOST_NAMES", "look_names", "named", "named_stand", "renamed", "renamed_stand", "cell_kinds", "fits", "namings_of"]
def nmL3 : List Str := ["namings", "least_like", "parts_of", "parts", "look_part", "part_world", "part_stand", "laid", "numbers_of", "pegs_of", "wins", "game", "LETTERS", "word_read", "row_text"]
def nmL4 : List Str := ["numbers_in", "read_row", "story", "_law_cell", "_law_mix", "_law_in", "_law_is_world", "_law_both", "_law_field", "_law_called", "_law_called_then", "_law_caught"]
def nmL : List Str := nmL0 ++ nmL1 ++ nmL2 ++ nmL3 ++ nmL4
theorem run (w : World) : HandSHeadRun.RunEq Ro (PySem.W.view Ro.prog [84]) hk ob 6000 nmL w := by
  intro os
  kernel_rfl
theorem facts {P : Program} {w : World} {K : PySem.W.Frag} {h : Heap} {mg : Str → Option Value} {f : Addr} (X : K.In h) (G : h.Ns mainGlobals mg) (hfa : mg ("law" : Str) = some (.ref f)) (c : He.SaysD faL fnL K) :
    ∃ fd : FuncData, (∀ (s : Shared) (v : Value), BindsTo s fd ⟨[v], []⟩ [("script", v)]) ∧ ∀ base : Heap, FnOk P w K mg base (L2.CX P w) 5 f fd ["script"] (spF K (clsK K) m_law) := by
  obtain ⟨fd__law_cell, F__law_cell⟩ := c.def_ 0 (d := dd__law_cell) rfl
  obtain ⟨fd_is_within, F_is_within⟩ := c.def_ 1 (d := dd_is_within) rfl
  obtain ⟨fd_both_ways, F_both_ways⟩ := c.def_ 2 (d := dd_both_ways) rfl
  obtain ⟨fd_line, F_line⟩ := c.def_ 3 (d := dd_line) rfl
  obtain ⟨fd_ring, F_ring⟩ := c.def_ 4 (d := dd_ring) rfl
  obtain ⟨fd_field, F_field⟩ := c.def_ 5 (d := dd_field) rfl
  obtain ⟨fd__law_called, F__law_called⟩ := c.def_ 6 (d := dd__law_called) rfl
  obtain ⟨fd__law_called_then, F__law_called_then⟩ := c.def_ 7 (d := dd__law_called_then) rfl
  obtain ⟨fd__law_caught, F__law_caught⟩ := c.def_ 8 (d := dd__law_caught) rfl
  obtain ⟨fd__law_both, F__law_both⟩ := c.def_ 9 (d := dd__law_both) rfl
  obtain ⟨fd__law_mix, F__law_mix⟩ := c.def_ 10 (d := dd__law_mix) rfl
  obtain ⟨fd__law_field, F__law_field⟩ := c.def_ 11 (d := dd__law_field) rfl
  obtain ⟨fd__law_in, F__law_in⟩ := c.def_ 12 (d := dd__law_in) rfl
  obtain ⟨fd__law_is_world, F__law_is_world⟩ := c.def_ 13 (d := dd__law_is_world) rfl
  obtain ⟨fd_law, F_law⟩ := c.def_ 14 (d := dd_law) rfl
  have G__law_cell := He.glo_ok X G (c.fact 0 (f := .glo "_law_cell") rfl)
  have G_is_within := He.glo_ok X G (c.fact 1 (f := .glo "is_within") rfl)
  have G_both_ways := He.glo_ok X G (c.fact 2 (f := .glo "both_ways") rfl)
  have G_line := He.glo_ok X G (c.fact 3 (f := .glo "line") rfl)
  have G_ring := He.glo_ok X G (c.fact 4 (f := .glo "ring") rfl)
  have G_field := He.glo_ok X G (c.fact 5 (f := .glo "field") rfl)
  have G__law_called := He.glo_ok X G (c.fact 6 (f := .glo "_law_called") rfl)
  have G__law_called_then := He.glo_ok X G (c.fact 7 (f := .glo "_law_called_then") rfl)
  have G__law_caught := He.glo_ok X G (c.fact 8 (f := .glo "_law_caught") rfl)
  have G__law_both := He.glo_ok X G (c.fact 9 (f := .glo "_law_both") rfl)
  have G__law_mix := He.glo_ok X G (c.fact 10 (f := .glo "_law_mix") rfl)
  have G__law_field := He.glo_ok X G (c.fact 11 (f := .glo "_law_field") rfl)
  have G__law_in := He.glo_ok X G (c.fact 12 (f := .glo "_law_in") rfl)
  have G__law_is_world := He.glo_ok X G (c.fact 13 (f := .glo "_law_is_world") rfl)
  have G_law := He.glo_ok X G (c.fact 14 (f := .glo "law") rfl)
  have fx : Fx (clsK K) K mg := {
    z_len := He.free_ok X G (c.fact 15 (f := .free "len") rfl),
    z_isinstance := He.free_ok X G (c.fact 16 (f := .free "isinstance") rfl),
    z_bool := He.free_ok X G (c.fact 17 (f := .free "bool") rfl),
    z_int := He.free_ok X G (c.fact 18 (f := .free "int") rfl),
    z_sorted := He.free_ok X G (c.fact 19 (f := .free "sorted") rfl),
    z_tuple := He.free_ok X G (c.fact 20 (f := .free "tuple") rfl),
    z_range := He.free_ok X G (c.fact 21 (f := .free "range") rfl),
    z_zip := He.free_ok X G (c.fact 22 (f := .free "zip") rfl),
    c_MOST_CELLS := He.int_ok X G (c.fact 23 (f := .int "MOST_CELLS" 12) rfl),
    c_MOST_JUMPS := He.int_ok X G (c.fact 24 (f := .int "MOST_JUMPS" 16) rfl),
    x_BadCount := exF_of X G (c.fact 29 (f := .glo "BadCount") rfl) (c.fact 34 (f := .exc "BadCount") rfl),
    gc_TooMany := He.glo_ok X G (c.fact 30 (f := .glo "TooMany") rfl),
    xm_TooMany := fun e he => by
      simp only [excL, List.mem_cons, List.not_mem_nil, or_false] at he
      rcases he with rfl | rfl | rfl | rfl | rfl | rfl | rfl | rfl | rfl
      · exact (He.exm_ok (c.fact 35 (f := .exm "JumpError" "TooMany" false) rfl)).trans (by decide +kernel)
      · exact (He.exm_ok (c.fact 36 (f := .exm "BadWorld" "TooMany" false) rfl)).trans (by decide +kernel)
      · exact (He.exm_ok (c.fact 37 (f := .exm "BadStand" "TooMany" false) rfl)).trans (by decide +kernel)
      · exact (He.exm_ok (c.fact 38 (f := .exm "BadJump" "TooMany" false) rfl)).trans (by decide +kernel)
      · exact (He.exm_ok (c.fact 39 (f := .exm "BadCount" "TooMany" false) rfl)).trans (by decide +kernel)
      · exact (He.exm_ok (c.fact 40 (f := .exm "TooMany" "TooMany" true) rfl)).trans (by decide +kernel)
      · exact (He.exm_ok (c.fact 41 (f := .exm "BadText" "TooMany" false) rfl)).trans (by decide +kernel)
      · exact (He.exm_ok (c.fact 42 (f := .exm "BadNames" "TooMany" false) rfl)).trans (by decide +kernel)
      · exact (He.exm_ok (c.fact 43 (f := .exm "Nothing" "TooMany" false) rfl)).trans (by decide +kernel),
    gc_BadText := He.glo_ok X G (c.fact 31 (f := .glo "BadText") rfl),
    xm_BadText := fun e he => by
      simp only [excL, List.mem_cons, List.not_mem_nil, or_false] at he
      rcases he with rfl | rfl | rfl | rfl | rfl | rfl | rfl | rfl | rfl
      · exact (He.exm_ok (c.fact 44 (f := .exm "JumpError" "BadText" false) rfl)).trans (by decide +kernel)
      · exact (He.exm_ok (c.fact 45 (f := .exm "BadWorld" "BadText" false) rfl)).trans (by decide +kernel)
      · exact (He.exm_ok (c.fact 46 (f := .exm "BadStand" "BadText" false) rfl)).trans (by decide +kernel)
      · exact (He.exm_ok (c.fact 47 (f := .exm "BadJump" "BadText" false) rfl)).trans (by decide +kernel)
      · exact (He.exm_ok (c.fact 48 (f := .exm "BadCount" "BadText" false) rfl)).trans (by decide +kernel)
      · exact (He.exm_ok (c.fact 49 (f := .exm "TooMany" "BadText" false) rfl)).trans (by decide +kernel)
      · exact (He.exm_ok (c.fact 50 (f := .exm "BadText" "BadText" true) rfl)).trans (by decide +kernel)
      · exact (He.exm_ok (c.fact 51 (f := .exm "BadNames" "BadText" false) rfl)).trans (by decide +kernel)
      · exact (He.exm_ok (c.fact 52 (f := .exm "Nothing" "BadText" false) rfl)).trans (by decide +kernel),
    gc_BadNames := He.glo_ok X G (c.fact 32 (f := .glo "BadNames") rfl),
    xm_BadNames := fun e he => by
      simp only [excL, List.mem_cons, List.not_mem_nil, or_false] at he
      rcases he with rfl | rfl | rfl | rfl | rfl | rfl | rfl | rfl | rfl
      · exact (He.exm_ok (c.fact 53 (f := .exm "JumpError" "BadNames" false) rfl)).trans (by decide +kernel)
      · exact (He.exm_ok (c.fact 54 (f := .exm "BadWorld" "BadNames" false) rfl)).trans (by decide +kernel)
      · exact (He.exm_ok (c.fact 55 (f := .exm "BadStand" "BadNames" false) rfl)).trans (by decide +kernel)
      · exact (He.exm_ok (c.fact 56 (f := .exm "BadJump" "BadNames" false) rfl)).trans (by decide +kernel)
      · exact (He.exm_ok (c.fact 57 (f := .exm "BadCount" "BadNames" false) rfl)).trans (by decide +kernel)
      · exact (He.exm_ok (c.fact 58 (f := .exm "TooMany" "BadNames" false) rfl)).trans (by decide +kernel)
      · exact (He.exm_ok (c.fact 59 (f := .exm "BadText" "BadNames" false) rfl)).trans (by decide +kernel)
      · exact (He.exm_ok (c.fact 60 (f := .exm "BadNames" "BadNames" true) rfl)).trans (by decide +kernel)
      · exact (He.exm_ok (c.fact 61 (f := .exm "Nothing" "BadNames" false) rfl)).trans (by decide +kernel),
    gc_BadCount := He.glo_ok X G (c.fact 29 (f := .glo "BadCount") rfl),
    xm_BadCount := fun e he => by
      simp only [excL, List.mem_cons, List.not_mem_nil, or_false] at he
      rcases he with rfl | rfl | rfl | rfl | rfl | rfl | rfl | rfl | rfl
      · exact (He.exm_ok (c.fact 62 (f := .exm "JumpError" "BadCount" false) rfl)).trans (by decide +kernel)
      · exact (He.exm_ok (c.fact 63 (f := .exm "BadWorld" "BadCount" false) rfl)).trans (by decide +kernel)
      · exact (He.exm_ok (c.fact 64 (f := .exm "BadStand" "BadCount" false) rfl)).trans (by decide +kernel)
      · exact (He.exm_ok (c.fact 65 (f := .exm "BadJump" "BadCount" false) rfl)).trans (by decide +kernel)
      · exact (He.exm_ok (c.fact 66 (f := .exm "BadCount" "BadCount" true) rfl)).trans (by decide +kernel)
      · exact (He.exm_ok (c.fact 67 (f := .exm "TooMany" "BadCount" false) rfl)).trans (by decide +kernel)
      · exact (He.exm_ok (c.fact 68 (f := .exm "BadText" "BadCount" false) rfl)).trans (by decide +kernel)
      · exact (He.exm_ok (c.fact 69 (f := .exm "BadNames" "BadCount" false) rfl)).trans (by decide +kernel)
      · exact (He.exm_ok (c.fact 70 (f := .exm "Nothing" "BadCount" false) rfl)).trans (by decide +kernel),
    gc_BadJump := He.glo_ok X G (c.fact 28 (f := .glo "BadJump") rfl),
    xm_BadJump := fun e he => by
      simp only [excL, List.mem_cons, List.not_mem_nil, or_false] at he
      rcases he with rfl | rfl | rfl | rfl | rfl | rfl | rfl | rfl | rfl
      · exact (He.exm_ok (c.fact 71 (f := .exm "JumpError" "BadJump" false) rfl)).trans (by decide +kernel)
      · exact (He.exm_ok (c.fact 72 (f := .exm "BadWorld" "BadJump" false) rfl)).trans (by decide +kernel)
      · exact (He.exm_ok (c.fact 73 (f := .exm "BadStand" "BadJump" false) rfl)).trans (by decide +kernel)
      · exact (He.exm_ok (c.fact 74 (f := .exm "BadJump" "BadJump" true) rfl)).trans (by decide +kernel)
      · exact (He.exm_ok (c.fact 75 (f := .exm "BadCount" "BadJump" false) rfl)).trans (by decide +kernel)
      · exact (He.exm_ok (c.fact 76 (f := .exm "TooMany" "BadJump" false) rfl)).trans (by decide +kernel)
      · exact (He.exm_ok (c.fact 77 (f := .exm "BadText" "BadJump" false) rfl)).trans (by decide +kernel)
      · exact (He.exm_ok (c.fact 78 (f := .exm "BadNames" "BadJump" false) rfl)).trans (by decide +kernel)
      · exact (He.exm_ok (c.fact 79 (f := .exm "Nothing" "BadJump" false) rfl)).trans (by decide +kernel),
    gc_BadStand := He.glo_ok X G (c.fact 27 (f := .glo "BadStand") rfl),
    xm_BadStand := fun e he => by
      simp only [excL, List.mem_cons, List.not_mem_nil, or_false] at he
      rcases he with rfl | rfl | rfl | rfl | rfl | rfl | rfl | rfl | rfl
      · exact (He.exm_ok (c.fact 80 (f := .exm "JumpError" "BadStand" false) rfl)).trans (by decide +kernel)
      · exact (He.exm_ok (c.fact 81 (f := .exm "BadWorld" "BadStand" false) rfl)).trans (by decide +kernel)
      · exact (He.exm_ok (c.fact 82 (f := .exm "BadStand" "BadStand" true) rfl)).trans (by decide +kernel)
      · exact (He.exm_ok (c.fact 83 (f := .exm "BadJump" "BadStand" false) rfl)).trans (by decide +kernel)
      · exact (He.exm_ok (c.fact 84 (f := .exm "BadCount" "BadStand" false) rfl)).trans (by decide +kernel)
      · exact (He.exm_ok (c.fact 85 (f := .exm "TooMany" "BadStand" false) rfl)).trans (by decide +kernel)
      · exact (He.exm_ok (c.fact 86 (f := .exm "BadText" "BadStand" false) rfl)).trans (by decide +kernel)
      · exact (He.exm_ok (c.fact 87 (f := .exm "BadNames" "BadStand" false) rfl)).trans (by decide +kernel)
      · exact (He.exm_ok (c.fact 88 (f := .exm "Nothing" "BadStand" false) rfl)).trans (by decide +kernel),
    gc_BadWorld := He.glo_ok X G (c.fact 26 (f := .glo "BadWorld") rfl),
    xm_BadWorld := fun e he => by
      simp only [excL, List.mem_cons, List.not_mem_nil, or_false] at he
      rcases he with rfl | rfl | rfl | rfl | rfl | rfl | rfl | rfl | rfl
      · exact (He.exm_ok (c.fact 89 (f := .exm "JumpError" "BadWorld" false) rfl)).trans (by decide +kernel)
      · exact (He.exm_ok (c.fact 90 (f := .exm "BadWorld" "BadWorld" true) rfl)).trans (by decide +kernel)
      · exact (He.exm_ok (c.fact 91 (f := .exm "BadStand" "BadWorld" false) rfl)).trans (by decide +kernel)
      · exact (He.exm_ok (c.fact 92 (f := .exm "BadJump" "BadWorld" false) rfl)).trans (by decide +kernel)
      · exact (He.exm_ok (c.fact 93 (f := .exm "BadCount" "BadWorld" false) rfl)).trans (by decide +kernel)
      · exact (He.exm_ok (c.fact 94 (f := .exm "TooMany" "BadWorld" false) rfl)).trans (by decide +kernel)
      · exact (He.exm_ok (c.fact 95 (f := .exm "BadText" "BadWorld" false) rfl)).trans (by decide +kernel)
      · exact (He.exm_ok (c.fact 96 (f := .exm "BadNames" "BadWorld" false) rfl)).trans (by decide +kernel)
      · exact (He.exm_ok (c.fact 97 (f := .exm "Nothing" "BadWorld" false) rfl)).trans (by decide +kernel),
    r__law_cell := raw_of F__law_cell G__law_cell,
    r_is_within := raw_of F_is_within G_is_within,
    r_both_ways := raw_of F_both_ways G_both_ways,
    r_line := raw_of F_line G_line,
    r_ring := raw_of F_ring G_ring,
    r_field := raw_of F_field G_field,
    r__law_called := raw_of F__law_called G__law_called,
    r__law_called_then := raw_of F__law_called_then G__law_called_then,
    r__law_caught := raw_of F__law_caught G__law_caught,
    r__law_both := raw_of F__law_both G__law_both,
    r__law_mix := raw_of F__law_mix G__law_mix,
    r__law_field := raw_of F__law_field G__law_field,
    r__law_in := raw_of F__law_in G__law_in,
    r__law_is_world := raw_of F__law_is_world G__law_is_world,
    r_law := raw_of F_law G_law }
  exact def_law F_law G_law hfa (fun _ _ _ _ _ _ us hl => match us, hl with | [_], _ => rfl) fun base => (d_all fx).ex
theorem law_holds (hm : ∀ ns : List Int, ns.length ≤ 63 → m_law [.list (ns.map PyData.int)] = .ok (.bool true)) : PySem.Challenge.rw_lastjump_k16_made.Holds := by
  w_on; o_law
  refine HandSHeadRun.head_any (r := PySem.W.OpenLaw.row PySem.Challenge.rw_lastjump_k16_made) (q := PySem.W.view (PySem.W.OpenLaw.row PySem.Challenge.rw_lastjump_k16_made).prog [84]) (H := hk) (ob := ob) (M := 6000) (loose := nmL) (d := HandSHeadRun.topDef (PySem.W.OpenLaw.row PySem.Challenge.rw_lastjump_k16_made).prog 84) (kwd := []) ob_eq
    (by kernel_rfl) (fun s => by kernel_rfl) run (by kernel_rfl) (by kernel_rfl) (by kernel_rfl) (by rfl) (by first | assumption | decide +kernel) (by decide +kernel) ⟨rfl, rfl, rfl, rfl, rfl, by decide +kernel⟩ ?hw ?hc
  case hw => w_witness2
  case hc =>
    refine walk_ofM (l := PySem.Challenge.rw_lastjump_k16_made) (n := 63) (k := 5) (x := "script") (CX := fun w => L2.CX PySem.Challenge.rw_lastjump_k16_made.prog w) rfl (by decide) (by kernel_rfl) ⟨rfl, by decide, by decide⟩ ?F (fun _ _ _ _ _ h => by obtain ⟨_, _, _, _, _, _, _, _, _, _, _, _, z⟩ := h; exact z)
    intro w mg fa h Y G hmg0
    obtain ⟨K, KX, c⟩ := Y
    have hmg : mg ("law" : PySem.Str) = some (.ref fa) := by
      have e : (HandSHeadRun.topDef (PySem.W.OpenLaw.row PySem.Challenge.rw_lastjump_k16_made).prog 84).name = ("law" : PySem.Str) := by kernel_rfl
      rw [← e]
      exact hmg0
    obtain ⟨fd, hb, hF⟩ := facts (P := (PySem.Challenge.rw_lastjump_k16_made).prog) (w := w) KX G hmg c
    exact ⟨K, fd, spF K (clsK K) m_law, KX, hb, fun H a ns hl _ hS => law_end hm H a ns hl hS, fun base _ _ => hF base⟩
end Mi

/-! k16: the plain law. -/
namespace Mi
open PySem PySem.Spec PyProof.Rows L2
theorem cellN (ns : List Int) (k : Nat) : m__law_cell [.list (ns.map PyData.int), .int (k : Int)] = .ok (.int (ns.getD k 0)) := cell_of ns k
theorem mixN (c p m : Int) (hp : 0 < p ∧ p < 1000000) (hm : 0 < m) : m__law_mix [.int c, .int p, .int m] = .ok (.int ((c * 48271 % p) ^ 3 % p % m)) := by
  show outS (b__law_mix [.fz (.int c), .fz (.int p), .fz (.int m)]) = _
  have h : eBin dMod (eBin dMod (eBin dPow (eBin dMod (eBin dMulI (eVar 0) (eC (.int 48271))) (eVar 1)) (eC (.int 3))) (eVar 1)) (eVar 2) [.fz (.int c), .fz (.int p), .fz (.int m)] = .ok (.int ((c * 48271 % p) ^ 3 % p % m)) := by
    refine bin_ok (bin_ok (bin_ok (bin_ok (bin_ok (x := .int c) (y := .int 48271) rfl rfl (mul_ok (.inr (by decide)))) (y := .int p) rfl (mod_ok hp.1)) (y := .int 3) rfl (pow_ok ⟨by decide, by decide, ?_⟩)) (y := .int p) rfl (mod_ok hp.1)) (y := .int m) rfl (mod_ok hm)
    have h1 := Int.emod_nonneg (c * 48271) (b := p) (by omega)
    have h2 := Int.emod_lt_of_pos (c * 48271) hp.1
    omega
  unfold b__law_mix sRet
  rw [h]
  rfl

theorem st0 (ns : List Int) : b_law_0 [.fz (.list (ns.map PyData.int)), .un, .un, .un, .un, .un, .un, .un, .un] = .nx [.fz (.list (ns.map PyData.int)), .fz (.int (3 + ns.getD 0 0 % 8)), .un, .un, .un, .un, .un, .un, .un] :=
  set_nx (bin_ok (x := .int 3) rfl (bin_ok (y := .int 8) (call_ok (ds := [.list (ns.map PyData.int), .int 0]) rfl (cellN ns 0)) rfl (mod_ok (by decide))) rfl)
theorem st1 (S : Da) : ∀ a : Nat, a < 8 → b_law_1 [.fz S, .fz (.int (3 + (a : Int))), .un, .un, .un, .un, .un, .un, .un] = .nx [.fz S, .fz (.int (3 + (a : Int))), .un, .un, .un, .un, .un, .un, .un]
  | 0, _ => by kernel_rfl
  | 1, _ => by kernel_rfl
  | 2, _ => by kernel_rfl
  | 3, _ => by kernel_rfl
  | 4, _ => by kernel_rfl
  | 5, _ => by kernel_rfl
  | 6, _ => by kernel_rfl
  | 7, _ => by kernel_rfl
  | n + 8, h => absurd h (by omega)
theorem st2 (S : Da) : ∀ a : Nat, a < 8 → b_law_2 [.fz S, .fz (.int (3 + (a : Int))), .un, .un, .un, .un, .un, .un, .un] = .nx [.fz S, .fz (.int (3 + (a : Int))), .un, .un, .un, .un, .un, .un, .un]
  | 0, _ => by kernel_rfl
  | 1, _ => by kernel_rfl
  | 2, _ => by kernel_rfl
  | 3, _ => by kernel_rfl
  | 4, _ => by kernel_rfl
  | 5, _ => by kernel_rfl
  | 6, _ => by kernel_rfl
  | 7, _ => by kernel_rfl
  | n + 8, h => absurd h (by omega)
theorem st3 (ns : List Int) (A1 : Sl) : b_law_3 [.fz (.list (ns.map PyData.int)), A1, .un, .un, .un, .un, .un, .un, .un] = .nx [.fz (.list (ns.map PyData.int)), A1, .un, .fz (.int (3 + ns.getD 1 0 % 6)), .un, .un, .un, .un, .un] :=
  set_nx (bin_ok (x := .int 3) rfl (bin_ok (y := .int 6) (call_ok (ds := [.list (ns.map PyData.int), .int 1]) rfl (cellN ns 1)) rfl (mod_ok (by decide))) rfl)
def rowsV (b : Nat) : Da := okD (eLc [2] (iR1 (eVar 3)) (gNm 2) ftYes (eTup (aCons (eVar 2) (aCons (eBin dMod (eBin dAdd (eVar 2) (eC (.int 1))) (eVar 3)) (aCons (eBin dMod (eBin dAdd (eVar 2) (eC (.int 2))) (eVar 3)) aNil)))) [.un, .un, .un, .fz (.int (3 + (b : Int))), .un, .un, .un, .un, .un])
theorem st4 (S : Da) (A1 : Sl) : ∀ b : Nat, b < 6 → b_law_4 [.fz S, A1, .un, .fz (.int (3 + (b : Int))), .un, .un, .un, .un, .un] = .nx [.fz S, A1, .un, .fz (.int (3 + (b : Int))), .ow (rowsV b), .un, .un, .un, .un]
  | 0, _ => by kernel_rfl
  | 1, _ => by kernel_rfl
  | 2, _ => by kernel_rfl
  | 3, _ => by kernel_rfl
  | 4, _ => by kernel_rfl
  | 5, _ => by kernel_rfl
  | n + 6, h => absurd h (by omega)
theorem st4f (S : Da) (A1 : Sl) : ∀ b : Nat, b < 6 → frzE 4 [.fz S, A1, .un, .fz (.int (3 + (b : Int))), .ow (rowsV b), .un, .un, .un, .un] = [.fz S, A1, .un, .fz (.int (3 + (b : Int))), .fz (rowsV b), .un, .un, .un, .un]
  | 0, _ => by kernel_rfl
  | 1, _ => by kernel_rfl
  | 2, _ => by kernel_rfl
  | 3, _ => by kernel_rfl
  | 4, _ => by kernel_rfl
  | 5, _ => by kernel_rfl
  | n + 6, h => absurd h (by omega)
theorem st5 (S : Da) (A1 : Sl) : ∀ b : Nat, b < 6 → b_law_5 [.fz S, A1, .un, .fz (.int (3 + (b : Int))), .fz (rowsV b), .un, .un, .un, .un] = .nx [.fz S, A1, .un, .fz (.int (3 + (b : Int))), .fz (rowsV b), .un, .un, .un, .un]
  | 0, _ => by kernel_rfl
  | 1, _ => by kernel_rfl
  | 2, _ => by kernel_rfl
  | 3, _ => by kernel_rfl
  | 4, _ => by kernel_rfl
  | 5, _ => by kernel_rfl
  | n + 6, h => absurd h (by omega)
theorem st6 (ns : List Int) (A1 A3 A4 : Sl) : b_law_6 [.fz (.list (ns.map PyData.int)), A1, .un, A3, A4, .un, .un, .un, .un] = .nx [.fz (.list (ns.map PyData.int)), A1, .un, A3, A4, .fz (.int (1 + ns.getD 2 0 % 12)), .un, .un, .un] :=
  set_nx (bin_ok (x := .int 1) rfl (bin_ok (y := .int 12) (call_ok (ds := [.list (ns.map PyData.int), .int 2]) rfl (cellN ns 2)) rfl (mod_ok (by decide))) rfl)
theorem st7 (ns : List Int) (A1 A3 A4 : Sl) (c : Nat) (hc : c < 12) : b_law_7 [.fz (.list (ns.map PyData.int)), A1, .un, A3, A4, .fz (.int (1 + (c : Int))), .un, .un, .un] = .nx [.fz (.list (ns.map PyData.int)), A1, .un, A3, A4, .fz (.int (1 + (c : Int))), .fz (.int (1 + (ns.getD 3 0 * 48271 % 9949) ^ 3 % 9949 % (12 / (1 + (c : Int))))), .un, .un] := by
  have hq : (0 : Int) < 12 / (1 + (c : Int)) := by
    match c, hc with
    | 0, _ => decide
    | 1, _ => decide
    | 2, _ => decide
    | 3, _ => decide
    | 4, _ => decide
    | 5, _ => decide
    | 6, _ => decide
    | 7, _ => decide
    | 8, _ => decide
    | 9, _ => decide
    | 10, _ => decide
    | 11, _ => decide
    | n + 12, h => omega
  have hd : dFdiv (.int 12) (.int (1 + (c : Int))) = .ok (.int (12 / (1 + (c : Int)))) := fdiv_ok ⟨by omega, by omega⟩
  exact set_nx (bin_ok (x := .int 1) rfl (call_ok (ds := [.int (ns.getD 3 0), .int 9949, .int (12 / (1 + (c : Int)))]) (cons_ok (call_ok (ds := [.list (ns.map PyData.int), .int 3]) rfl (cellN ns 3)) (cons_ok rfl (cons_ok (bin_ok (x := .int 12) (y := .int (1 + (c : Int))) rfl rfl hd) rfl))) (mixN _ _ _ ⟨by decide, by decide⟩ hq)) rfl)
abbrev dueV (c h : Nat) : Da := okD (m__law_field [.int (1 + (c : Int)), .int (1 + (h : Int))])
theorem st8 (S : Da) (A1 A3 A4 : Sl) : ∀ c : Nat, c < 12 → ∀ h : Nat, h < 12 / (1 + c) → b_law_8 [.fz S, A1, .un, A3, A4, .fz (.int (1 + (c : Int))), .fz (.int (1 + (h : Int))), .un, .un] = .nx [.fz S, A1, .un, A3, A4, .fz (.int (1 + (c : Int))), .fz (.int (1 + (h : Int))), .fz (dueV c h), .un]
  | 0, _, 0, _ => by kernel_rfl
  | 0, _, 1, _ => by kernel_rfl
  | 0, _, 2, _ => by kernel_rfl
  | 0, _, 3, _ => by kernel_rfl
  | 0, _, 4, _ => by kernel_rfl
  | 0, _, 5, _ => by kernel_rfl
  | 0, _, 6, _ => by kernel_rfl
  | 0, _, 7, _ => by kernel_rfl
  | 0, _, 8, _ => by kernel_rfl
  | 0, _, 9, _ => by kernel_rfl
  | 0, _, 10, _ => by kernel_rfl
  | 0, _, 11, _ => by kernel_rfl
  | 0, _, n + 12, h => absurd h (by omega)
  | 1, _, 0, _ => by kernel_rfl
  | 1, _, 1, _ => by kernel_rfl
  | 1, _, 2, _ => by kernel_rfl
  | 1, _, 3, _ => by kernel_rfl
  | 1, _, 4, _ => by kernel_rfl
  | 1, _, 5, _ => by kernel_rfl
  | 1, _, n + 6, h => absurd h (by omega)
  | 2, _, 0, _ => by kernel_rfl
  | 2, _, 1, _ => by kernel_rfl
  | 2, _, 2, _ => by kernel_rfl
  | 2, _, 3, _ => by kernel_rfl
  | 2, _, n + 4, h => absurd h (by omega)
  | 3, _, 0, _ => by kernel_rfl
  | 3, _, 1, _ => by kernel_rfl
  | 3, _, 2, _ => by kernel_rfl
  | 3, _, n + 3, h => absurd h (by omega)
  | 4, _, 0, _ => by kernel_rfl
  | 4, _, 1, _ => by kernel_rfl
  | 4, _, n + 2, h => absurd h (by omega)
  | 5, _, 0, _ => by kernel_rfl
  | 5, _, 1, _ => by kernel_rfl
  | 5, _, n + 2, h => absurd h (by omega)
  | 6, _, 0, _ => by kernel_rfl
  | 6, _, n + 1, h => absurd h (by omega)
  | 7, _, 0, _ => by kernel_rfl
  | 7, _, n + 1, h => absurd h (by omega)
  | 8, _, 0, _ => by kernel_rfl
  | 8, _, n + 1, h => absurd h (by omega)
  | 9, _, 0, _ => by kernel_rfl
  | 9, _, n + 1, h => absurd h (by omega)
  | 10, _, 0, _ => by kernel_rfl
  | 10, _, n + 1, h => absurd h (by omega)
  | 11, _, 0, _ => by kernel_rfl
  | 11, _, n + 1, h => absurd h (by omega)
  | n + 12, h, _, _ => absurd h (by omega)
theorem st9 (S : Da) (A1 A3 A4 : Sl) : ∀ c : Nat, c < 12 → ∀ h : Nat, h < 12 / (1 + c) → (b_law_9 [.fz S, A1, .un, A3, A4, .fz (.int (1 + (c : Int))), .fz (.int (1 + (h : Int))), .fz (dueV c h), .un] = .rt (.bool true)) ∨ (b_law_9 [.fz S, A1, .un, A3, A4, .fz (.int (1 + (c : Int))), .fz (.int (1 + (h : Int))), .fz (dueV c h), .un] = .nx [.fz S, A1, .un, A3, A4, .fz (.int (1 + (c : Int))), .fz (.int (1 + (h : Int))), .fz (dueV c h), .un] ∧ b_law_10 [.fz S, A1, .un, A3, A4, .fz (.int (1 + (c : Int))), .fz (.int (1 + (h : Int))), .fz (dueV c h), .un] = .nx [.fz S, A1, .un, A3, A4, .fz (.int (1 + (c : Int))), .fz (.int (1 + (h : Int))), .fz (dueV c h), .un])
  | 0, _, 0, _ => .inl (by kernel_rfl)
  | 0, _, 1, _ => .inl (by kernel_rfl)
  | 0, _, 2, _ => .inr ⟨by kernel_rfl, by kernel_rfl⟩
  | 0, _, 3, _ => .inr ⟨by kernel_rfl, by kernel_rfl⟩
  | 0, _, 4, _ => .inr ⟨by kernel_rfl, by kernel_rfl⟩
  | 0, _, 5, _ => .inr ⟨by kernel_rfl, by kernel_rfl⟩
  | 0, _, 6, _ => .inr ⟨by kernel_rfl, by kernel_rfl⟩
  | 0, _, 7, _ => .inr ⟨by kernel_rfl, by kernel_rfl⟩
  | 0, _, 8, _ => .inr ⟨by kernel_rfl, by kernel_rfl⟩
  | 0, _, 9, _ => .inr ⟨by kernel_rfl, by kernel_rfl⟩
  | 0, _, 10, _ => .inl (by kernel_rfl)
  | 0, _, 11, _ => .inl (by kernel_rfl)
  | 0, _, n + 12, h => absurd h (by omega)
  | 1, _, 0, _ => .inl (by kernel_rfl)
  | 1, _, 1, _ => .inr ⟨by kernel_rfl, by kernel_rfl⟩
  | 1, _, 2, _ => .inr ⟨by kernel_rfl, by kernel_rfl⟩
  | 1, _, 3, _ => .inr ⟨by kernel_rfl, by kernel_rfl⟩
  | 1, _, 4, _ => .inr ⟨by kernel_rfl, by kernel_rfl⟩
  | 1, _, 5, _ => .inr ⟨by kernel_rfl, by kernel_rfl⟩
  | 1, _, n + 6, h => absurd h (by omega)
  | 2, _, 0, _ => .inr ⟨by kernel_rfl, by kernel_rfl⟩
  | 2, _, 1, _ => .inr ⟨by kernel_rfl, by kernel_rfl⟩
  | 2, _, 2, _ => .inr ⟨by kernel_rfl, by kernel_rfl⟩
  | 2, _, 3, _ => .inl (by kernel_rfl)
  | 2, _, n + 4, h => absurd h (by omega)
  | 3, _, 0, _ => .inr ⟨by kernel_rfl, by kernel_rfl⟩
  | 3, _, 1, _ => .inr ⟨by kernel_rfl, by kernel_rfl⟩
  | 3, _, 2, _ => .inl (by kernel_rfl)
  | 3, _, n + 3, h => absurd h (by omega)
  | 4, _, 0, _ => .inr ⟨by kernel_rfl, by kernel_rfl⟩
  | 4, _, 1, _ => .inr ⟨by kernel_rfl, by kernel_rfl⟩
  | 4, _, n + 2, h => absurd h (by omega)
  | 5, _, 0, _ => .inr ⟨by kernel_rfl, by kernel_rfl⟩
  | 5, _, 1, _ => .inr ⟨by kernel_rfl, by kernel_rfl⟩
  | 5, _, n + 2, h => absurd h (by omega)
  | 6, _, 0, _ => .inr ⟨by kernel_rfl, by kernel_rfl⟩
  | 6, _, n + 1, h => absurd h (by omega)
  | 7, _, 0, _ => .inr ⟨by kernel_rfl, by kernel_rfl⟩
  | 7, _, n + 1, h => absurd h (by omega)
  | 8, _, 0, _ => .inr ⟨by kernel_rfl, by kernel_rfl⟩
  | 8, _, n + 1, h => absurd h (by omega)
  | 9, _, 0, _ => .inr ⟨by kernel_rfl, by kernel_rfl⟩
  | 9, _, n + 1, h => absurd h (by omega)
  | 10, _, 0, _ => .inl (by kernel_rfl)
  | 10, _, n + 1, h => absurd h (by omega)
  | 11, _, 0, _ => .inl (by kernel_rfl)
  | 11, _, n + 1, h => absurd h (by omega)
  | n + 12, h, _, _ => absurd h (by omega)
def oddV : Nat → Da
  | 0 => .int 2 | 1 => .int 11 | 2 => .int 0 | 3 => .int (-1) | 4 => .none | 5 => .bool true | 6 => .str (Str.ofString "3") | _ => .int 9
theorem st11 (ns : List Int) (A1 A3 A4 A5 A6 A7 : Sl) (i : Nat) (hi : i < 8) (e : ns.getD 4 0 % 8 = (i : Int)) : b_law_11 [.fz (.list (ns.map PyData.int)), A1, .un, A3, A4, A5, A6, A7, .un] = .nx [.fz (.list (ns.map PyData.int)), A1, .un, A3, A4, A5, A6, A7, .fz (oddV i)] := by
  refine set_nx (bin_ok (x := .list [.int 2, .int 11, .int 0, .int (-1), .none, .bool true, .str (Str.ofString "3"), .int 9]) rfl (bin_ok (y := .int 8) (call_ok (ds := [.list (ns.map PyData.int), .int 4]) rfl (cellN ns 4)) rfl (mod_ok (by decide))) ?_)
  rw [e]
  clear e
  match i, hi with
  | 0, _ => kernel_rfl
  | 1, _ => kernel_rfl
  | 2, _ => kernel_rfl
  | 3, _ => kernel_rfl
  | 4, _ => kernel_rfl
  | 5, _ => kernel_rfl
  | 6, _ => kernel_rfl
  | 7, _ => kernel_rfl
  | n + 8, h => omega
theorem st12 (S : Da) (A1 A3 A4 A5 A6 A7 : Sl) : ∀ i : Nat, i < 8 → b_law_12 [.fz S, A1, .un, A3, A4, A5, A6, A7, .fz (oddV i)] = .nx [.fz S, A1, .un, A3, A4, A5, A6, A7, .fz (oddV i)]
  | 0, _ => by kernel_rfl
  | 1, _ => by kernel_rfl
  | 2, _ => by kernel_rfl
  | 3, _ => by kernel_rfl
  | 4, _ => by kernel_rfl
  | 5, _ => by kernel_rfl
  | 6, _ => by kernel_rfl
  | 7, _ => by kernel_rfl
  | n + 8, h => absurd h (by omega)
theorem st13 (S : Da) (A1 A3 A4 A5 A6 A7 : Sl) : ∀ i : Nat, i < 8 → b_law_13 [.fz S, A1, .un, A3, A4, A5, A6, A7, .fz (oddV i)] = .rt (.bool true)
  | 0, _ => by kernel_rfl
  | 1, _ => by kernel_rfl
  | 2, _ => by kernel_rfl
  | 3, _ => by kernel_rfl
  | 4, _ => by kernel_rfl
  | 5, _ => by kernel_rfl
  | 6, _ => by kernel_rfl
  | 7, _ => by kernel_rfl
  | n + 8, h => absurd h (by omega)
theorem hm (ns : List Int) (_ : ns.length ≤ 63) : m_law [.list (ns.map PyData.int)] = .ok (.bool true) := by
  obtain ⟨a, ha, ea⟩ := md (ns.getD 0 0) 8 (by decide)
  obtain ⟨b, hb, eb⟩ := md (ns.getD 1 0) 6 (by decide)
  obtain ⟨c, hc, ec⟩ := md (ns.getD 2 0) 12 (by decide)
  have hq : 0 < 12 / (1 + c) := Nat.div_pos (by omega) (by omega)
  obtain ⟨h, hh, eh⟩ := md ((ns.getD 3 0 * 48271 % 9949) ^ 3 % 9949) (12 / (1 + c)) hq
  obtain ⟨i, hi, ei⟩ := md (ns.getD 4 0) 8 (by decide)
  show outS (b_law (env0 9 [.list (ns.map PyData.int)])) = _
  have q : b_law (env0 9 [.list (ns.map PyData.int)]) = .rt (.bool true) := by
    rw [b_law_eq]
    have h0 := st0 ns
    have ea' : ns.getD 0 0 % 8 = (a : Int) := ea
    rw [ea'] at h0
    refine seq_nx h0 (seq_nx (st1 _ a ha) (seq_nx (st2 _ a ha) ?_))
    have h3 := st3 ns (.fz (.int (3 + (a : Int))))
    have eb' : ns.getD 1 0 % 6 = (b : Int) := eb
    rw [eb'] at h3
    refine seq_nx h3 (seq_nx (st4 _ _ b hb) ?_)
    unfold sFrz
    rw [st4f _ _ b hb]
    refine seq_nx (st5 _ _ b hb) ?_
    have h6 := st6 ns (.fz (.int (3 + (a : Int)))) (.fz (.int (3 + (b : Int)))) (.fz (rowsV b))
    have ec' : ns.getD 2 0 % 12 = (c : Int) := ec
    rw [ec'] at h6
    refine seq_nx h6 ?_
    have h7 := st7 ns (.fz (.int (3 + (a : Int)))) (.fz (.int (3 + (b : Int)))) (.fz (rowsV b)) c hc
    have eh' : (ns.getD 3 0 * 48271 % 9949) ^ 3 % 9949 % (12 / (1 + (c : Int))) = (h : Int) := by
      have z : ((12 / (1 + c) : Nat) : Int) = 12 / (1 + (c : Int)) := by push_cast; rfl
      rw [z] at eh
      exact eh
    rw [eh'] at h7
    refine seq_nx h7 (seq_nx (st8 _ _ _ _ c hc h hh) ?_)
    rcases st9 (.list (ns.map PyData.int)) (.fz (.int (3 + (a : Int)))) (.fz (.int (3 + (b : Int)))) (.fz (rowsV b)) c hc h hh with z | ⟨z1, z2⟩
    · exact seq_rt z
    · exact seq_nx z1 (seq_nx z2 (seq_nx (st11 ns _ _ _ _ _ _ i hi ei) (seq_nx (st12 _ _ _ _ _ _ _ i hi) (st13 _ _ _ _ _ _ _ i hi))))
  rw [q]
  rfl
end Mi

theorem PySem.Challenge.cw_lastjump_k16_made_holds : PySem.Challenge.rw_lastjump_k16_made.Holds :=
  Mi.law_holds Mi.hm
