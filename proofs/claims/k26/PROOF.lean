import PyProof.Rows.All
import Wide.All
import OpenK.AllK
import Wide.FinOn
import HandS.ForMost
import HandS.ForExc
import HandS.TupAny
import HandS.TupMul
import HandS.Conv
import HandS.HeadHook1
import HandS.TryMany
import HandS.Evl
import HandS.Lambda
import KE.KNestM
import HandS.Flow
import KE.GoesNew
import HandS.Zip
import HandS.TupLe
import HandS.Deep
import HandS.IsInst
import HandS.SetFor
import HandS.Style
import HandS.StrMore
import KE.SortData
import KE.KRevSl
import PyProof.TupleOfSeq
import PyProof.Rows.InDataRows
import HandS.Strs
import PyProof.SetRoads
import HandS.Dict
import HandS.Small
import HandS.Iter
import PyProof.ListStr
import KE.KDictSum
import KE.DataFind
import KE.DataMinMax
import PyProof.StrLoop
import HandS.TupSets
import PyProof.StrOps2
import KE.GoesMore
import KE.SortKeyHeap
import HandS.SortKw
import HandS.Head0
import HandS.Head1
import HandS.Head2
import HandS.HeadEnd
import HandS.EndBits
import HandS.EndTab
import HandS.HeadWalk
import HandS.HeadHook2
import HandS.Defaults
import HandS.ExcIs
import PySem.Challenge.RW_lastjump_k26_board
import KE.GoesRaise
import HandS.ReplaceLit
import KE.IntBitsLaws
set_option Elab.async false
set_option linter.all false
set_option maxRecDepth 1000000
set_option maxHeartbeats 0
set_option autoImplicit false
namespace Mi
open PySem PySem.Spec PyProof.Rows L2
section
variable {X : Cx}
theorem ok_tup {P : Program} {w : World} {H : Hp} {h : Heap} {xs : List V} {vals0 : List Value} (z : xs.length ≤ sizeLine) (r : Vals xs vals0) (n : Nat := 0) : ObjOk P w H (h.push { cls := .type "tuple", data := .seq vals0.toArray n }) h.objs.size (.frz { cls := .type "tuple", data := .seq vals0.toArray n } (.tup xs)) :=
  ⟨Heap.get?_push_size _ rfl, z, vals0, r, ⟨_, Heap.get?_push_size _ rfl, rfl, _, rfl⟩⟩
def tTupP (t : TA) : TE := fun σ H Q => t σ H fun xs H1 => xs.length ≤ sizeLine ∧ ∀ (p : Addr) (o : Obj), H1 p = none → o.dict = none → Q (.ref p) (upd H1 p (.frz o (.tup xs)))
theorem pe_tupP {es : List Expr} {t : TA} {pos : Pos} {x1 : Nat} (h : PA X es t) : PE X (.Tuple es x1 pos) (tTupP t) := by
  refine ⟨fun pins s σ H Q I hq => ?_⟩
  refine wpAny_Tuple_spliced (thn (h.run pos pins s σ H _ I hq) fun us s1 ⟨xs, H1, I1, r, z, q⟩ => ⟨by rw [← r.length]; exact z, ?_⟩)
  have hf : H1 s1.heap.objs.size = none := I1.hok.fresh (Nat.le_refl _)
  exact ⟨.ref s1.heap.objs.size, _, I1.laid (t' := s1.toks) (fun b u e => Heap.get?_push_of_some _ e) (Nat.le_refl _) (ok_tup z r), rfl, q _ _ hf rfl⟩
theorem call_tupleP : CallR X (.type "tuple") (fun xs H Q => ∃ p ys, xs = [.ref p] ∧ ((SqL X.K H p ys ∧ ∀ (l : Addr) (o : Obj), H l = none → o.dict = none → Q (.ref l) (upd H l (.frz o (.tup ys)))) ∨ (SqT X.K H p ys ∧ Q (.ref p) H))) := by
  intro pins s σ H xs us Q I r h
  obtain ⟨p, ys, rfl, h⟩ := h
  obtain ⟨u, rfl, rx⟩ := vals1 r
  cases rx
  rcases h with ⟨hq, q⟩ | ⟨hq, q⟩
  · obtain ⟨vals0, r', pl, hz⟩ := I.list hq
    have hln := r'.length
    refine call_tuple_list pl.isList (fun h' kp => ?_) (by simp only [List.size_toArray] <;> omega)
    have I1 : Inv X pins σ H { s with heap := h' } := I.kept (t' := s.toks) kp
    exact ⟨.ref h'.objs.size, _, I1.laid (t' := s.toks) (fun b o e => Heap.get?_push_of_some _ e) (Nat.le_refl _) (ok_tup hz r'), rfl, q _ _ (I1.hok.fresh (Nat.le_refl _)) rfl⟩
  · obtain ⟨vals0, r', pl, hz⟩ := I.tuple hq
    exact call_tuple_same pl ⟨.ref p, H, I, rfl, q⟩
def rSlP (K : PySem.W.Frag) : V → Option Int → Option Int → Hp → VK → Prop := fun x lo hi H Q => ∃ a xs, x = .ref a ∧ SqT K H a xs ∧
  (HT.sIx xs.length 0 lo = 0 ∧ HT.sIx xs.length xs.length hi = xs.length → Q (.ref a) H) ∧ (¬ (HT.sIx xs.length 0 lo = 0 ∧ HT.sIx xs.length xs.length hi = xs.length) → ∀ (p : Addr) (o : Obj), H p = none → o.dict = none → Q (.ref p) (upd H p (.frz o (.tup (cutV xs lo hi)))))
theorem sl_tupP : SlR X (rSlP X.K) := by
  intro pins s σ H x v vl vu lo hi sl Q I rx hs pl pu h
  obtain ⟨a, xs, rfl, hx, q1, q2⟩ := h
  cases rx
  obtain ⟨vals0, r, ht, hz⟩ := I.tuple hx
  have hln : vals0.toArray.size = xs.length := by rw [List.size_toArray]; exact r.length.symm
  refine ⟨"tuple", _, PyProof.Rows.slot_tuple_getitem.lookup, ht.typeIs, ?_⟩
  by_cases hw : HT.sIx xs.length 0 lo = 0 ∧ HT.sIx xs.length xs.length hi = xs.length
  · exact getItem_tuple_whole ht hs pl pu (by rw [hln]; exact hw) ⟨.ref a, H, I, rfl, q1 hw⟩
  · refine HT.getItem_tuple_cut ht hs pl pu (by rw [hln]; exact hw) ?_ (by rw [hln]; exact hz)
    rw [hln]
    exact ⟨.ref s.heap.objs.size, _, I.laid (t' := s.toks) (fun b ob q => Heap.get?_push_of_some _ q) (Nat.le_refl _) (ok_tup (xs := cutV xs lo hi) (Nat.le_trans (cutV_length xs lo hi) hz) ((r.drop (HT.sIx xs.length 0 lo)).take (HT.sIx xs.length xs.length hi - HT.sIx xs.length 0 lo))), rfl, q2 hw _ _ (I.hok.fresh (Nat.le_refl _)) rfl⟩
def rCatP (K : PySem.W.Frag) : R2 := fun x y H Q => ∃ a b xs ys, x = .ref a ∧ y = .ref b ∧ SqT K H a xs ∧ SqT K H b ys ∧ xs.length + ys.length ≤ sizeLine ∧
  (xs = [] → Q (.ref b) H) ∧ (xs ≠ [] → ys = [] → Q (.ref a) H) ∧ (xs ≠ [] → ys ≠ [] → ∀ (p : Addr) (o : Obj), H p = none → o.dict = none → Q (.ref p) (upd H p (.frz o (.tup (xs ++ ys)))))
theorem op_catP : OpR X (binaryOp .Add) (rCatP X.K) := by
  intro pins s σ H x y v u Q I rx ry h
  obtain ⟨a, b, xs, ys, rfl, rfl, ha, hb, hz, q0, q1, q2⟩ := h
  cases rx
  cases ry
  obtain ⟨vals0, ra, pa0, _⟩ := I.tuple ha
  obtain ⟨jts, rb, pb0, _⟩ := I.tuple hb
  by_cases hx : xs = []
  · subst hx
    cases ra
    exact cat_tup0 pa0 pb0 ⟨.ref b, H, I, rfl, q0 rfl⟩
  · refine HT.cat_tup pa0 pb0 (fun z => hx (ra.nil_iff.mp z)) (fun z => ⟨.ref a, H, I, rfl, q1 hx (rb.nil_iff.mp z)⟩) (fun z => ?_) (by rw [← ra.length, ← rb.length]; exact hz)
    exact ⟨.ref s.heap.objs.size, _, I.laid (t' := s.toks) (fun b ob q => Heap.get?_push_of_some _ q) (Nat.le_refl _) (ok_tup (xs := xs ++ ys) (by rw [List.length_append]; exact hz) (ra.append rb)), rfl, q2 hx (fun w => z (rb.nil_iff.mpr w)) _ _ (I.hok.fresh (Nat.le_refl _)) rfl⟩
end
end Mi

namespace Mi
open PySem PySem.Spec PyProof.Rows L2

abbrev Da := PyData

inductive R (α : Type) where
  | ok (a : α)
  | er (c : String)
  | no
namespace R
def bind {α β : Type} (x : R α) (f : α → R β) : R β := match x with
  | .ok a => f a
  | .er c => .er c
  | .no => .no
@[simp] theorem ok_bind {α β : Type} (a : α) (f : α → R β) : R.bind (.ok a) f = f a := rfl
@[simp] theorem er_bind {α β : Type} (c : String) (f : α → R β) : R.bind (.er c) f = .er c := rfl
@[simp] theorem no_bind {α β : Type} (f : α → R β) : R.bind .no f = .no := rfl
end R

structure BS where
  w : Da
  row : List Da
  nums : List Da
  und : List Da
inductive CK where
  | bo
  | st
  | ll
structure Cm where
  k : CK
  w : Da
  ls : List (List Da)
inductive Sl where
  | un
  | fz (d : Da)
  | ow (d : Da)
  | pn (v : V)
  | bd (b : BS)
  | cm (c : Cm)
abbrev Env := List Sl
inductive SR where
  | nx (r : Env)
  | rt (d : Da)
  | bk (r : Env)
  | ct (r : Env)
  | er (c : String) (r : Env)
  | no

def qW : Str := (("ways_to" : Str) ++ ".<locals>.") ++ "<lambda>"
def PlainO : HO → Prop
  | .tbl _ => False
  | .ext _ => False
  | _ => True
def HLe (H H' : Hp) (a : Addr) : HO → Prop
  | .tbl _ => (∃ ps', H' a = some (.tbl ps')) ∧ (LamX.TabS H a qW → LamX.TabS H' a qW)
  | o => H' a = some o
theorem HLe.eq {H H' : Hp} {a : Addr} {o : HO} (h : HLe H H' a o) (n : ∀ ps, o ≠ .tbl ps) : H' a = some o := by
  cases o with
  | tbl ps => exact absurd rfl (n ps)
  | _ => exact h
theorem HLe.of {H H' : Hp} {a : Addr} {o : HO} (h : H' a = some o) (t : ∀ ps, o = .tbl ps → LamX.TabS H a qW → LamX.TabS H' a qW) : HLe H H' a o := by
  cases o with
  | tbl ps => exact ⟨⟨ps, h⟩, t ps rfl⟩
  | _ => exact h
theorem PlainO.nt {o : HO} (h : PlainO o) (ps : Array Value) : o ≠ .tbl ps := fun e => by subst e; exact h
theorem PlainO.nc {o : HO} (h : PlainO o) (c : Addr) (q : Str) : o ≠ LamX.CodeO c q := fun e => by subst e; exact h
def Le (H H' : Hp) : Prop := ∀ a o, H a = some o → HLe H H' a o
theorem Le.at {H H' : Hp} (e : Le H H') {a : Addr} {o : HO} (h : H a = some o) (n : PlainO o := by exact True.intro) : H' a = some o := (e a o h).eq n.nt
theorem Le.tab {H H' : Hp} (e : Le H H') {a : Addr} (h : LamX.TabS H a qW) : LamX.TabS H' a qW := by
  obtain ⟨ps, h1, _⟩ := id h
  exact (e a _ h1).2 h
theorem Le.has {H H' : Hp} (e : Le H H') {a : Addr} {o : HO} (h : H a = some o) : ∃ o', H' a = some o' := by
  have q := e a o h
  cases o with
  | tbl ps =>
    obtain ⟨⟨ps', q⟩, _⟩ := q
    exact ⟨_, q⟩
  | _ => exact ⟨_, q⟩
theorem Le.refl (H : Hp) : Le H H := fun _ _ h => HLe.of h fun _ _ t => t
theorem Le.trans {H H1 H2 : Hp} (a : Le H H1) (b : Le H1 H2) : Le H H2 := fun x o h => by
  have q := a x o h
  cases o with
  | tbl ps =>
    obtain ⟨⟨ps1, q1⟩, q2⟩ := q
    obtain ⟨q3, q4⟩ := b x _ q1
    exact ⟨q3, fun t => q4 (q2 t)⟩
  | _ => exact b x _ q
theorem Le.ext {H H' : Hp} (e : ∀ a o, H a = some o → H' a = some o) : Le H H' := fun a o h => HLe.of (e a o h) fun _ _ t => t.ext e
theorem Le.new {H : Hp} {p : Addr} {o : HO} (h : H p = none) : Le H (upd H p o) := Le.ext fun a u e => by
  rw [upd_ne (ne_of_none e h)]
  exact e
theorem tabS_upd {H : Hp} {a p : Addr} {q : Str} {o : HO} (t : LamX.TabS H a q) (np : a ≠ p) (hc : ∀ c q, H p ≠ some (LamX.CodeO c q)) : LamX.TabS (upd H p o) a q := by
  obtain ⟨ps2, t1, t2, t3⟩ := t
  refine ⟨ps2, by rw [upd_ne np]; exact t1, t2, fun pos cv hcv => ?_⟩
  obtain ⟨c, e1, e2⟩ := t3 pos cv hcv
  exact ⟨c, e1, by rw [upd_ne (fun z => hc c q (by rw [← z]; exact e2))]; exact e2⟩
theorem Le.put {H H' : Hp} {p : Addr} {o : HO} (e : Le H H') (h : H p = none) (hc : ∀ c q, H' p ≠ some (LamX.CodeO c q)) : Le H (upd H' p o) := fun a u ha => by
  have q := e a u ha
  have np := ne_of_none ha h
  cases u with
  | tbl ps =>
    obtain ⟨⟨ps', q1⟩, q2⟩ := q
    exact ⟨⟨ps', by rw [upd_ne np]; exact q1⟩, fun t => tabS_upd (q2 t) np hc⟩
  | _ =>
    show upd H' p o a = _
    rw [upd_ne np]
    exact q
theorem Le.both {H H' : Hp} {p : Addr} {o : HO} (e : Le H H') (hc : ∀ c q, H' p ≠ some (LamX.CodeO c q)) (ho : PlainO o) : Le (upd H p o) (upd H' p o) := fun a u ha => by
  by_cases q : a = p
  · subst q
    rw [upd_same] at ha
    cases ha
    exact HLe.of upd_same fun ps z => absurd z (ho.nt ps)
  · rw [upd_ne q] at ha
    have r := e a u ha
    cases u with
    | tbl ps =>
      obtain ⟨⟨ps', q1⟩, q2⟩ := r
      refine ⟨⟨ps', by rw [upd_ne q]; exact q1⟩, fun t => tabS_upd (q2 ?_) q hc⟩
      obtain ⟨ps2, t1, t2, t3⟩ := t
      rw [upd_ne q] at t1
      refine ⟨ps2, t1, t2, fun pos cv hcv => ?_⟩
      obtain ⟨c, e1, e2⟩ := t3 pos cv hcv
      by_cases z : c = p
      · subst z
        rw [upd_same] at e2
        exact absurd (Option.some.inj e2) (ho.nc _ _)
      · rw [upd_ne z] at e2
        exact ⟨c, e1, e2⟩
    | _ =>
      show upd H' p o a = _
      rw [upd_ne q]
      exact r
theorem Le.add {B H : Hp} {p : Addr} {o : HO} (e : Le B H) (hp : H p = some o) (ho : PlainO o := by exact True.intro) : Le (upd B p o) H := fun a u ha => by
  by_cases q : a = p
  · subst q
    rw [upd_same] at ha
    cases ha
    exact HLe.of hp fun ps z => absurd z (ho.nt ps)
  · rw [upd_ne q] at ha
    have r := e a u ha
    cases u with
    | tbl ps =>
      obtain ⟨q1, q2⟩ := r
      refine ⟨q1, fun t => q2 ?_⟩
      obtain ⟨ps2, t1, t2, t3⟩ := t
      rw [upd_ne q] at t1
      refine ⟨ps2, t1, t2, fun pos cv hcv => ?_⟩
      obtain ⟨c, e1, e2⟩ := t3 pos cv hcv
      by_cases z : c = p
      · subst z
        rw [upd_same] at e2
        exact absurd (Option.some.inj e2) (ho.nc _ _)
      · rw [upd_ne z] at e2
        exact ⟨c, e1, e2⟩
    | _ => exact r
theorem nc_none {H : Hp} {p : Addr} (h : H p = none) (c : Addr) (q : Str) : H p ≠ some (LamX.CodeO c q) := fun z => by rw [h] at z; cases z
theorem nc_plain {H : Hp} {p : Addr} {o : HO} (h : H p = some o) (ho : PlainO o := by exact True.intro) (c : Addr) (q : Str) : H p ≠ some (LamX.CodeO c q) := fun z => by
  rw [h] at z
  exact ho.nc c q (Option.some.inj z)
def TbK (K : PySem.W.Frag) (P : Addr) : Prop := ∃ c, PySem.W.codeIn K (.ref c) "ways_to" = true ∧ PySem.W.codeHdIn K c P = true
def TbAll (K : PySem.W.Frag) (H : Hp) : Prop := ∀ P, TbK K P → LamX.TabS H P qW
theorem TbAll.mono {K : PySem.W.Frag} {H H' : Hp} (t : TbAll K H) (e : Le H H') : TbAll K H' := fun P h => e.tab (t P h)
theorem Le.back {H H' : Hp} {p : Addr} (e : Le H H') (h : H' p = none) : H p = none := by
  cases q : H p with
  | none => rfl
  | some o =>
    obtain ⟨o', r⟩ := e.has q
    rw [r] at h
    cases h
theorem Le.rd {H H' : Hp} {a : Addr} {u : HO} (e : Le H H') (h : Rd H a u) (n : PlainO u := by exact True.intro) : Rd H' a u := by
  rcases h with h | ⟨o, h⟩
  · exact Or.inl (e.at h n)
  · exact Or.inr ⟨o, e.at h⟩
theorem Le.sl {K : PySem.W.Frag} {H H' : Hp} {a : Addr} {xs : List V} (e : Le H H') (h : SqL K H a xs) : SqL K H' a xs := by
  rcases h with h | h
  · exact Or.inl (e.rd h)
  · exact Or.inr h
theorem Le.st {K : PySem.W.Frag} {H H' : Hp} {a : Addr} {xs : List V} (e : Le H H') (h : SqT K H a xs) : SqT K H' a xs := by
  rcases h with h | h
  · exact Or.inl (e.rd h)
  · exact Or.inr h

def TpF (H : Hp) (a : Addr) (xs : List V) : Prop := ∃ o : Obj, H a = some (.frz o (.tup xs)) ∧ o.dict = none
theorem TpF.sq {K : PySem.W.Frag} {H : Hp} {a : Addr} {xs : List V} (h : TpF H a xs) : SqT K H a xs := by
  obtain ⟨o, h, _⟩ := h
  exact .inl (.inr ⟨o, h⟩)
theorem Le.tp {H H' : Hp} {a : Addr} {xs : List V} (e : Le H H') (h : TpF H a xs) : TpF H' a xs := by
  obtain ⟨o, h, d⟩ := h
  exact ⟨o, e.at h, d⟩
theorem TpF.new {H : Hp} {a : Addr} {o : Obj} {xs : List V} (d : o.dict = none) : TpF (upd H a (.frz o (.tup xs))) a xs := ⟨o, upd_same, d⟩
def kD : Key → Da
  | .inl i => .int i
  | .inr x => .str x
mutual
inductive Rep (K : PySem.W.Frag) (H : Hp) : V → Da → Prop
  | non : Rep K H .non .none
  | bl (b : Bool) : Rep K H (.bl b) (.bool b)
  | int (i : Int) : Rep K H (.int i) (.int i)
  | str (x : Str) : Rep K H (.str x) (.str x)
  | lst {a : Addr} {xs : List V} {ds : List Da} : SqL K H a xs → RepAll K H xs ds → Rep K H (.ref a) (.list ds)
  | tup {a : Addr} {xs : List V} {ds : List Da} : TpF H a xs → RepAll K H xs ds → Rep K H (.ref a) (.tuple ds)
  | dct {a : Addr} {o : Obj} {kvs : List (Key × V)} {kds : List (Da × Da)} : H a = some (.frz o (.dK kvs)) → RepKV K H kvs kds → Rep K H (.ref a) (.dict kds)
inductive RepAll (K : PySem.W.Frag) (H : Hp) : List V → List Da → Prop
  | nil : RepAll K H [] []
  | cons {v : V} {vs : List V} {d : Da} {ds : List Da} : Rep K H v d → RepAll K H vs ds → RepAll K H (v :: vs) (d :: ds)
inductive RepKV (K : PySem.W.Frag) (H : Hp) : List (Key × V) → List (Da × Da) → Prop
  | nil : RepKV K H [] []
  | cons {k : Key} {v : V} {vs : List (Key × V)} {d : Da} {ds : List (Da × Da)} : Rep K H v d → RepKV K H vs ds → RepKV K H ((k, v) :: vs) ((kD k, d) :: ds)
end
section
variable {K : PySem.W.Frag} {H H' : Hp}
mutual
theorem Rep.mono (e : Le H H') : ∀ {v : V} {d : Da}, Rep K H v d → Rep K H' v d
  | _, _, .non => .non
  | _, _, .bl b => .bl b
  | _, _, .int i => .int i
  | _, _, .str x => .str x
  | _, _, .lst h r => .lst (e.sl h) (RepAll.mono e r)
  | _, _, .tup h r => .tup (e.tp h) (RepAll.mono e r)
  | _, _, .dct h r => .dct (e _ _ h) (RepKV.mono e r)
theorem RepAll.mono (e : Le H H') : ∀ {v : List V} {d : List Da}, RepAll K H v d → RepAll K H' v d
  | _, _, .nil => .nil
  | _, _, .cons h r => .cons (Rep.mono e h) (RepAll.mono e r)
theorem RepKV.mono (e : Le H H') : ∀ {v : List (Key × V)} {d : List (Da × Da)}, RepKV K H v d → RepKV K H' v d
  | _, _, .nil => .nil
  | _, _, .cons h r => .cons (Rep.mono e h) (RepKV.mono e r)
end
theorem RepAll.length : ∀ {vs : List V} {ds : List Da}, RepAll K H vs ds → vs.length = ds.length
  | _, _, .nil => rfl
  | _, _, .cons _ r => by
    rw [List.length_cons, List.length_cons, r.length]
theorem RepAll.get : ∀ {vs : List V} {ds : List Da} {i : Nat} {d : Da}, RepAll K H vs ds → ds[i]? = some d → ∃ v, vs[i]? = some v ∧ Rep K H v d
  | _, _, _, _, .nil, e => by simp at e
  | _, _, 0, _, .cons h _, e => by
    simp at e
    subst e
    exact ⟨_, rfl, h⟩
  | _, _, i + 1, d, .cons _ t, e => by
    obtain ⟨v, h1, h2⟩ := RepAll.get (i := i) (d := d) t (by simpa using e)
    exact ⟨v, by simpa using h1, h2⟩
theorem RepAll.get' : ∀ {vs : List V} {ds : List Da} {i : Nat} {v : V}, RepAll K H vs ds → vs[i]? = some v → ∃ d, ds[i]? = some d ∧ Rep K H v d
  | _, _, _, _, .nil, e => by simp at e
  | _, _, 0, _, .cons h _, e => by
    simp at e
    subst e
    exact ⟨_, rfl, h⟩
  | _, _, i + 1, d, .cons _ t, e => by
    obtain ⟨v, h1, h2⟩ := RepAll.get' (i := i) (v := d) t (by simpa using e)
    exact ⟨v, by simpa using h1, h2⟩
theorem RepAll.append : ∀ {vs ws : List V} {ds es : List Da}, RepAll K H vs ds → RepAll K H ws es → RepAll K H (vs ++ ws) (ds ++ es)
  | _, _, _, _, .nil, s => s
  | _, _, _, _, .cons h r, s => .cons h (RepAll.append r s)
theorem RepAll.take : ∀ {vs : List V} {ds : List Da} (n : Nat), RepAll K H vs ds → RepAll K H (vs.take n) (ds.take n)
  | _, _, 0, _ => .nil
  | _, _, _ + 1, .nil => .nil
  | _, _, n + 1, .cons h r => .cons h (RepAll.take n r)
theorem RepAll.drop : ∀ {vs : List V} {ds : List Da} (n : Nat), RepAll K H vs ds → RepAll K H (vs.drop n) (ds.drop n)
  | _, _, 0, r => r
  | _, _, _ + 1, .nil => .nil
  | _, _, n + 1, .cons _ r => RepAll.drop n r
theorem RepAll.set {v : V} {d : Da} (h : Rep K H v d) : ∀ {vs : List V} {ds : List Da} (i : Nat), RepAll K H vs ds → RepAll K H (vs.set i v) (ds.set i d)
  | _, _, _, .nil => .nil
  | _, _, 0, .cons _ t => .cons h t
  | _, _, i + 1, .cons q t => .cons q (RepAll.set h i t)
theorem RepAll.one {v : V} {d : Da} (h : Rep K H v d) : RepAll K H [v] [d] := .cons h .nil
theorem RepAll.ints : ∀ {vs : List V} {ns : List Int}, RepAll K H vs (ns.map PyData.int) → vs = ns.map V.int
  | _, [], .nil => rfl
  | _, n :: ns, .cons h r => by
    cases h
    rw [r.ints]
    rfl
theorem RepAll.strs : ∀ {vs : List V} {ns : List Str}, RepAll K H vs (ns.map PyData.str) → vs = ns.map V.str
  | _, [], .nil => rfl
  | _, n :: ns, .cons h r => by
    cases h
    rw [r.strs]
    rfl
theorem repInts : ∀ (ns : List Int), RepAll K H (ns.map V.int) (ns.map PyData.int)
  | [] => .nil
  | n :: ns => .cons (.int n) (repInts ns)
theorem RepKV.length : ∀ {vs : List (Key × V)} {ds : List (Da × Da)}, RepKV K H vs ds → vs.length = ds.length
  | _, _, .nil => rfl
  | _, _, .cons _ r => by
    rw [List.length_cons, List.length_cons, r.length]
end

def RepW (K : PySem.W.Frag) (H : Hp) (v : V) : Da → Prop
  | .tuple ds => ∃ a xs, v = .ref a ∧ SqT K H a xs ∧ RepAll K H xs ds
  | _ => False
def RepB (b : Bool) (K : PySem.W.Frag) (H : Hp) (v : V) (d : Da) : Prop := match b with
  | true => Rep K H v d
  | false => RepW K H v d
theorem RepB.w {b : Bool} {K : PySem.W.Frag} {H : Hp} {v : V} {ds : List Da} (h : RepB b K H v (.tuple ds)) : ∃ a xs, v = .ref a ∧ SqT K H a xs ∧ RepAll K H xs ds := by
  cases b with
  | true =>
    have h : Rep K H v (.tuple ds) := h
    cases h with
    | tup h1 r => exact ⟨_, _, rfl, h1.sq, r⟩
  | false => exact h
def NoFL : HO → Prop
  | .frz _ (.lst _) => False
  | _ => True
def NewFL (B B' : Hp) : Prop := ∀ a o xs, B' a = some (.frz o (.lst xs)) → B a = some (.frz o (.lst xs))
theorem NewFL.upd {B B' : Hp} {p : Addr} {o : HO} (h : NewFL B B') (ho : NoFL o := by exact True.intro) : NewFL B (upd B' p o) := fun a u xs e => by
  by_cases q : a = p
  · subst q
    rw [upd_same] at e
    cases e
    exact ho.elim
  · rw [upd_ne q] at e
    exact h a u xs e
theorem NewFL.refl (B : Hp) : NewFL B B := fun _ _ _ h => h
def Gr (F B B' : Hp) : Prop := Le B B' ∧ (∀ a o, F a = some o → B' a = B a) ∧ NewFL B B'
theorem Gr.refl (F B : Hp) : Gr F B B := ⟨Le.refl B, fun _ _ _ => rfl, NewFL.refl B⟩
theorem Gr.trans {F B B1 B2 : Hp} (a : Gr F B B1) (b : Gr F B1 B2) : Gr F B B2 := ⟨a.1.trans b.1, fun x o h => (b.2.1 x o h).trans (a.2.1 x o h), fun x o xs h => a.2.2 x o xs (b.2.2 x o xs h)⟩
theorem Gr.weak {F F' B B' : Hp} (a : Gr F B B') (e : Le F' F) : Gr F' B B' := ⟨a.1, fun x o h => by
  obtain ⟨o', h'⟩ := e.has h
  exact a.2.1 x o' h', a.2.2⟩
structure Stp (B H B' H' : Hp) : Prop where
  gr : Gr H B B'
  bh : Le B' H'
  hh : Le H H'
theorem Stp.refl {B H : Hp} (h : Le B H) : Stp B H B H := ⟨Gr.refl _ _, h, Le.refl _⟩
theorem Stp.trans {B H B1 H1 B2 H2 : Hp} (a : Stp B H B1 H1) (b : Stp B1 H1 B2 H2) : Stp B H B2 H2 := ⟨a.gr.trans (b.gr.weak a.hh), b.bh, a.hh.trans b.hh⟩
theorem Stp.new {B H : Hp} {p : Addr} {o : HO} (h : Le B H) (n : H p = none) (ho : PlainO o := by exact True.intro) (hf : NoFL o := by exact True.intro) : Stp B H (upd B p o) (upd H p o) :=
  ⟨⟨Le.new (h.back n), fun a u e => upd_ne (ne_of_none e n), (NewFL.refl B).upd hf⟩, h.both (nc_none n) ho, Le.new n⟩
theorem Stp.drop {B H : Hp} {p : Addr} {o : HO} (h : Le B H) (n : H p = none) : Stp B H B (upd H p o) :=
  ⟨Gr.refl _ _, h.trans (Le.new n), Le.new n⟩

def Rr (K : PySem.W.Frag) (B H : Hp) (v : V) (d : Da) : Prop :=
  Rep K B v d ∨ (∃ p xs ds, v = .ref p ∧ d = .list ds ∧ H p = some (.lst xs) ∧ RepAll K B xs ds) ∨ (∃ p kvs kds, v = .ref p ∧ d = .dict kds ∧ H p = some (.dK kvs) ∧ RepKV K B kvs kds)
theorem Rr.stp {K : PySem.W.Frag} {B H B' H' : Hp} {v : V} {d : Da} (r : Rr K B H v d) (s : Stp B H B' H') : Rr K B' H' v d := by
  rcases r with r | ⟨p, xs, ds, e1, e2, h, r⟩ | ⟨p, xs, ds, e1, e2, h, r⟩
  · exact .inl (r.mono s.gr.1)
  · exact .inr (.inl ⟨p, xs, ds, e1, e2, s.hh _ _ h, r.mono s.gr.1⟩)
  · exact .inr (.inr ⟨p, xs, ds, e1, e2, s.hh _ _ h, r.mono s.gr.1⟩)
theorem Rr.list {K : PySem.W.Frag} {B H : Hp} {v : V} {ds : List Da} (b : Le B H) (r : Rr K B H v (.list ds)) : ∃ p xs, v = .ref p ∧ SqL K H p xs ∧ RepAll K B xs ds := by
  rcases r with r | ⟨p, xs, ds', e1, e2, h, r⟩ | ⟨p, xs, ds', e1, e2, h, r⟩
  · cases r with
    | lst h r => exact ⟨_, _, rfl, b.sl h, r⟩
  · cases e2
    exact ⟨p, xs, e1, .inl (.inl h), r⟩
  · cases e2
theorem Rr.tuple {K : PySem.W.Frag} {B H : Hp} {v : V} {ds : List Da} (b : Le B H) (r : Rr K B H v (.tuple ds)) : ∃ p xs, v = .ref p ∧ SqT K H p xs ∧ TpF B p xs ∧ RepAll K B xs ds := by
  rcases r with r | ⟨p, xs, ds', e1, e2, h, r⟩ | ⟨p, xs, ds', e1, e2, h, r⟩
  · cases r with
    | tup h r => exact ⟨_, _, rfl, (b.tp h).sq, h, r⟩
  · cases e2
  · cases e2
theorem Rr.dict {K : PySem.W.Frag} {B H : Hp} {v : V} {kds : List (Da × Da)} (b : Le B H) (r : Rr K B H v (.dict kds)) : ∃ p kvs, v = .ref p ∧ Rd H p (.dK kvs) ∧ RepKV K B kvs kds := by
  rcases r with r | ⟨p, xs, ds', e1, e2, h, r⟩ | ⟨p, xs, ds', e1, e2, h, r⟩
  · cases r with
    | dct h r => exact ⟨_, _, rfl, .inr ⟨_, b _ _ h⟩, r⟩
  · cases e2
  · cases e2
    exact ⟨p, xs, e1, .inl h, r⟩
theorem Rr.int {K : PySem.W.Frag} {B H : Hp} {v : V} {i : Int} (r : Rr K B H v (.int i)) : v = .int i := by
  rcases r with r | ⟨p, xs, ds', e1, e2, h, r⟩ | ⟨p, xs, ds', e1, e2, h, r⟩
  · cases r
    rfl
  · cases e2
  · cases e2
theorem Rr.str {K : PySem.W.Frag} {B H : Hp} {v : V} {i : Str} (r : Rr K B H v (.str i)) : v = .str i := by
  rcases r with r | ⟨p, xs, ds', e1, e2, h, r⟩ | ⟨p, xs, ds', e1, e2, h, r⟩
  · cases r
    rfl
  · cases e2
  · cases e2
theorem Rr.bool {K : PySem.W.Frag} {B H : Hp} {v : V} {i : Bool} (r : Rr K B H v (.bool i)) : v = .bl i := by
  rcases r with r | ⟨p, xs, ds', e1, e2, h, r⟩ | ⟨p, xs, ds', e1, e2, h, r⟩
  · cases r
    rfl
  · cases e2
  · cases e2
theorem Rr.none {K : PySem.W.Frag} {B H : Hp} {v : V} (r : Rr K B H v .none) : v = .non := by
  rcases r with r | ⟨p, xs, ds', e1, e2, h, r⟩ | ⟨p, xs, ds', e1, e2, h, r⟩
  · cases r
    rfl
  · cases e2
  · cases e2

def OwnD (K : PySem.W.Frag) (B H : Hp) (p : Addr) : Da → Prop
  | .list ds => ∃ xs, H p = some (.lst xs) ∧ RepAll K B xs ds
  | .dict kds => ∃ kvs, H p = some (.dK kvs) ∧ RepKV K B kvs kds
  | _ => False
def bC (K : PySem.W.Frag) : Addr := He.ga K "Board"
structure BdF (K : PySem.W.Frag) (B : Hp) (x : Addr) (b : BS) : Prop where
  ex : ∃ dx q1 q2 q3 wv xs1 xs2 xs3, B x = some (.ins (bC K) dx [("world", wv), ("row", .ref q1), ("numbers", .ref q2), ("undone", .ref q3)]) ∧ B q1 = some (.lst xs1) ∧ B q2 = some (.lst xs2) ∧ B q3 = some (.lst xs3) ∧ Rep K B wv b.w ∧ RepAll K B xs1 b.row ∧ RepAll K B xs2 b.nums ∧ RepAll K B xs3 b.und
theorem BdF.mono {K : PySem.W.Frag} {B B' : Hp} {x : Addr} {b : BS} (h : BdF K B x b) (l : Le B B') : BdF K B' x b := by
  obtain ⟨dx, q1, q2, q3, wv, xs1, xs2, xs3, h1, h2, h3, h4, h5, h6, h7, h8⟩ := h.ex
  exact ⟨dx, q1, q2, q3, wv, xs1, xs2, xs3, l.at h1, l.at h2, l.at h3, l.at h4, h5.mono l, h6.mono l, h7.mono l, h8.mono l⟩
inductive Hd (K : PySem.W.Frag) (B : Hp) : CK → Da → List Addr → HO → Prop
  | bo {dx q1 q2 q3 : Addr} {wv : V} {w : Da} : Rep K B wv w → Hd K B .bo w [q1, q2, q3] (.ins (bC K) dx [("world", wv), ("row", .ref q1), ("numbers", .ref q2), ("undone", .ref q3)])
  | st {q1 q2 q3 : Addr} {w : Da} : Hd K B .st w [q1, q2, q3] (.dK [(.inr "row", .ref q1), (.inr "numbers", .ref q2), (.inr "undone", .ref q3)])
  | ll {qs : List Addr} {w : Da} : Hd K B .ll w qs (.lst (qs.map V.ref))
inductive LsO (K : PySem.W.Frag) (B H : Hp) : List Addr → List (List Da) → Prop
  | nil : LsO K B H [] []
  | cons {q : Addr} {qs : List Addr} {xs : List V} {ds : List Da} {ls : List (List Da)} : H q = some (.lst xs) → RepAll K B xs ds → LsO K B H qs ls → LsO K B H (q :: qs) (ds :: ls)
def rfs : List V → List Addr
  | [] => []
  | .ref a :: vs => a :: rfs vs
  | _ :: vs => rfs vs
def ftL : CK → HO → List Addr
  | .bo, .ins _ _ fs => rfs ((fs.drop 1).map (·.2))
  | .st, .dK kvs => rfs (kvs.map (·.2))
  | .ll, .lst xs => rfs xs
  | _, _ => []
def ftOf (H : Hp) (k : CK) (p : Addr) : List Addr := p :: (match H p with
  | some o => ftL k o
  | none => [])
theorem rfs_map : ∀ qs : List Addr, rfs (qs.map V.ref) = qs
  | [] => rfl
  | q :: qs => congrArg (q :: ·) (rfs_map qs)
theorem Hd.ft {K : PySem.W.Frag} {B : Hp} {k : CK} {w : Da} {qs : List Addr} {o : HO} (h : Hd K B k w qs o) : ftL k o = qs := by
  cases h with
  | bo _ => rfl
  | st => rfl
  | ll => exact rfs_map qs
theorem Hd.plain {K : PySem.W.Frag} {B : Hp} {k : CK} {w : Da} {qs : List Addr} {o : HO} (h : Hd K B k w qs o) : PlainO o := by
  cases h <;> exact True.intro
theorem Hd.mono {K : PySem.W.Frag} {B B' : Hp} {k : CK} {w : Da} {qs : List Addr} {o : HO} (h : Hd K B k w qs o) (l : Le B B') : Hd K B' k w qs o := by
  cases h with
  | bo h => exact .bo (h.mono l)
  | st => exact .st
  | ll => exact .ll
theorem LsO.mono {K : PySem.W.Frag} {B B' H H' : Hp} (l : Le B B') : ∀ {qs : List Addr} {ls : List (List Da)}, LsO K B H qs ls → (∀ a ∈ qs, H' a = H a) → LsO K B' H' qs ls
  | _, _, .nil, _ => .nil
  | _, _, .cons h r t, e => .cons (by rw [e _ List.mem_cons_self]; exact h) (r.mono l) (t.mono l fun a ha => e a (List.mem_cons_of_mem _ ha))
theorem LsO.there {K : PySem.W.Frag} {B H : Hp} : ∀ {qs : List Addr} {ls : List (List Da)}, LsO K B H qs ls → ∀ a ∈ qs, ∃ xs, H a = some (.lst xs)
  | _, _, .nil, a, ha => by cases ha
  | _, _, .cons h r t, a, ha => by
    rcases List.mem_cons.mp ha with rfl | ha
    · exact ⟨_, h⟩
    · exact t.there a ha
structure CmO (K : PySem.W.Frag) (F B H : Hp) (p : Addr) (c : Cm) : Prop where
  ex : ∃ o qs, H p = some o ∧ Hd K B c.k c.w qs o ∧ LsO K B H qs c.ls ∧ (p :: qs).Nodup
  fb : ∀ a ∈ ftOf H c.k p, F a = none ∧ B a = none
theorem ft_at {K : PySem.W.Frag} {B H : Hp} {k : CK} {w : Da} {qs : List Addr} {o : HO} {p : Addr} (hp : H p = some o) (h : Hd K B k w qs o) : ftOf H k p = p :: qs := by
  unfold ftOf
  rw [hp]
  exact congrArg _ h.ft
theorem CmO.there {K : PySem.W.Frag} {F B H : Hp} {p : Addr} {c : Cm} (h : CmO K F B H p c) {a : Addr} (ha : a ∈ ftOf H c.k p) : ∃ o, H a = some o ∧ PlainO o := by
  obtain ⟨o, qs, h1, h2, h3, h4⟩ := h.ex
  rw [ft_at h1 h2] at ha
  rcases List.mem_cons.mp ha with rfl | ha
  · exact ⟨o, h1, h2.plain⟩
  · obtain ⟨xs, hx⟩ := h3.there a ha
    exact ⟨_, hx, True.intro⟩
theorem ftOf_eq {H H' : Hp} {k : CK} {p : Addr} (e : H' p = H p) : ftOf H' k p = ftOf H k p := by
  unfold ftOf
  rw [e]
theorem CmO.mv {K : PySem.W.Frag} {F B H B' H' : Hp} {p : Addr} {c : Cm} (h : CmO K F B H p c) (l : Le B B') (e : ∀ a ∈ ftOf H c.k p, H' a = H a ∧ B' a = B a) : CmO K F B' H' p c := by
  obtain ⟨o, qs, h1, h2, h3, h4⟩ := h.ex
  have ef := ft_at h1 h2
  have ep : H' p = H p := (e p (by rw [ef]; exact List.mem_cons_self)).1
  refine ⟨⟨o, qs, by rw [ep]; exact h1, h2.mono l, h3.mono l fun a ha => (e a (by rw [ef]; exact List.mem_cons_of_mem _ ha)).1, h4⟩, fun a ha => ?_⟩
  rw [ftOf_eq ep] at ha
  rw [(e a ha).2]
  exact h.fb a ha
def FtC (H : Hp) (σ : L2.St) (r : Env) (i : Nat) (a : Addr) : Prop := ∃ c p, r[i]? = some (.cm c) ∧ σ[i]? = some (some (.ref p)) ∧ a ∈ ftOf H c.k p
def Own1 (σ : L2.St) (r : Env) (i : Nat) (a : Addr) : Prop := ∃ d, r[i]? = some (.ow d) ∧ σ[i]? = some (some (.ref a))
def Cmi (H : Hp) (σ : L2.St) (r : Env) : Prop := ∀ i j a, i ≠ j → FtC H σ r i a → ¬ FtC H σ r j a ∧ ¬ Own1 σ r j a
theorem Cmi.mv {H H' : Hp} {σ σ' : L2.St} {r r' : Env} (h : Cmi H σ r) (hs : ∀ i a, FtC H' σ' r' i a → FtC H σ r i a) (ho : ∀ j a, Own1 σ' r' j a → Own1 σ r j a ∨ ∀ i, ¬ FtC H σ r i a) : Cmi H' σ' r' := fun i j a ne f => by
  have f := hs i a f
  refine ⟨fun g => (h i j a ne f).1 (hs j a g), fun g => ?_⟩
  rcases ho j a g with g | g
  · exact (h i j a ne f).2 g
  · exact g i f
theorem cmi_none {H : Hp} {σ : L2.St} {r : Env} (h : ∀ (i : Nat) (c : Cm), r[i]? ≠ some (.cm c)) : Cmi H σ r := fun i j a _ f => by
  obtain ⟨c, p, e, _⟩ := f
  exact absurd e (h i c)
def SlOk (K : PySem.W.Frag) (F B H : Hp) (σ : L2.St) (i : Nat) : Sl → Prop
  | .cm c => ∃ p, σ[i]? = some (some (.ref p)) ∧ CmO K F B H p c
  | .pn v => σ[i]? = some (some v)
  | .bd b => ∃ x, σ[i]? = some (some (.ref x)) ∧ BdF K B x b
  | .un => True
  | .fz d => ∃ v, σ[i]? = some (some v) ∧ Rep K B v d
  | .ow d => ∃ p, σ[i]? = some (some (.ref p)) ∧ F p = none ∧ B p = none ∧ OwnD K B H p d
structure Ok (K : PySem.W.Frag) (F B H : Hp) (σ : L2.St) (r : Env) : Prop where
  bh : Le B H
  fh : Le F H
  len : σ.length = r.length
  sl : ∀ (i : Nat) (s : Sl), r[i]? = some s → SlOk K F B H σ i s
  inj : ∀ (i j : Nat) (d e : Da) (p : Addr), i ≠ j → r[i]? = some (.ow d) → r[j]? = some (.ow e) → σ[i]? = some (some (.ref p)) → σ[j]? ≠ some (some (.ref p))
  tb : TbAll K F
  ci : Cmi H σ r
theorem OwnD.stp {K : PySem.W.Frag} {B H B' H' : Hp} {p : Addr} (s : Stp B H B' H') : ∀ {d : Da}, OwnD K B H p d → OwnD K B' H' p d
  | .list _, ⟨xs, h, r⟩ => ⟨xs, s.hh _ _ h, r.mono s.gr.1⟩
  | .dict _, ⟨xs, h, r⟩ => ⟨xs, s.hh _ _ h, r.mono s.gr.1⟩
theorem OwnD.there {K : PySem.W.Frag} {B H : Hp} {p : Addr} : ∀ {d : Da}, OwnD K B H p d → ∃ o, H p = some o
  | .list _, ⟨_, h, _⟩ => ⟨_, h⟩
  | .dict _, ⟨_, h, _⟩ => ⟨_, h⟩
theorem OwnD.nc {K : PySem.W.Frag} {B H : Hp} {p : Addr} : ∀ {d : Da}, OwnD K B H p d → ∀ c q, H p ≠ some (LamX.CodeO c q)
  | .list _, ⟨_, h, _⟩ => nc_plain h
  | .dict _, ⟨_, h, _⟩ => nc_plain h
theorem Ok.ftc {K : PySem.W.Frag} {F B H : Hp} {σ : L2.St} {r : Env} (k : Ok K F B H σ r) {i : Nat} {a : Addr} (f : FtC H σ r i a) : (∃ o, H a = some o ∧ PlainO o) ∧ F a = none ∧ B a = none := by
  obtain ⟨c, p, e1, e2, ha⟩ := f
  obtain ⟨p', h1, h2⟩ := k.sl i _ e1
  rw [e2] at h1
  cases h1
  exact ⟨h2.there ha, h2.fb a ha⟩
theorem FtC.to {H H' : Hp} {σ σ' : L2.St} {r r' : Env} {i : Nat} {a : Addr} (f : FtC H' σ' r' i a) (er : ∀ c, r'[i]? = some (.cm c) → r[i]? = some (.cm c)) (es : ∀ c, r'[i]? = some (.cm c) → σ'[i]? = σ[i]?) (eh : ∀ p, FtC H σ r i p → H' p = H p) : FtC H σ r i a := by
  obtain ⟨c, p, e1, e2, ha⟩ := f
  have r1 := er c e1
  have s1 : σ[i]? = some (some (.ref p)) := by rw [← es c e1]; exact e2
  exact ⟨c, p, r1, s1, by rw [← ftOf_eq (eh p ⟨c, p, r1, s1, List.mem_cons_self⟩)]; exact ha⟩
theorem Ok.stp_at {K : PySem.W.Frag} {F B H B' H' : Hp} {σ : L2.St} {r : Env} (k : Ok K F B H σ r) (s : Stp B H B' H') {i : Nat} {a : Addr} (f : FtC H σ r i a) : H' a = H a ∧ B' a = B a := by
  obtain ⟨⟨o, h1, h2⟩, _⟩ := k.ftc f
  exact ⟨by rw [s.hh.at h1 h2, h1], s.gr.2.1 a o h1⟩
theorem Ok.stp {K : PySem.W.Frag} {F B H B' H' : Hp} {σ : L2.St} {r : Env} (k : Ok K F B H σ r) (s : Stp B H B' H') : Ok K F B' H' σ r := by
  refine ⟨s.bh, k.fh.trans s.hh, k.len, fun i sl e => ?_, k.inj, k.tb, k.ci.mv (fun i a f => f.to (fun _ z => z) (fun _ _ => rfl) fun p g => (k.stp_at s g).1) fun _ _ o => .inl o⟩
  have h := k.sl i sl e
  cases sl with
  | cm c =>
    obtain ⟨p, h1, h2⟩ := h
    exact ⟨p, h1, h2.mv s.gr.1 fun a ha => k.stp_at s ⟨c, p, e, h1, ha⟩⟩
  | un => trivial
  | pn v => exact h
  | bd b =>
    obtain ⟨v, h1, h2⟩ := h
    exact ⟨v, h1, h2.mono s.gr.1⟩
  | fz d =>
    obtain ⟨v, h1, h2⟩ := h
    exact ⟨v, h1, h2.mono s.gr.1⟩
  | ow d =>
    obtain ⟨p, h1, h2, h3, h4⟩ := h
    obtain ⟨o, ho⟩ := h4.there
    exact ⟨p, h1, h2, by rw [s.gr.2.1 p o ho]; exact h3, h4.stp s⟩
theorem Stp.grF {F B H B' H' : Hp} (s : Stp B H B' H') (f : Le F H) : Gr F B B' := s.gr.weak f
theorem Ok.rd {K : PySem.W.Frag} {F B H : Hp} {σ : L2.St} {r : Env} {i : Nat} {s : Sl} (k : Ok K F B H σ r) (e : r[i]? = some s) :
    match s with
    | .un => True
    | .pn _ => True
    | .bd _ => True
    | .cm _ => True
    | .fz d => ∃ v, σ[i]? = some (some v) ∧ Rep K B v d
    | .ow d => ∃ v, σ[i]? = some (some v) ∧ Rr K B H v d := by
  have h := k.sl i s e
  cases s with
  | un => trivial
  | pn v => trivial
  | bd b => trivial
  | cm c => trivial
  | fz d => exact h
  | ow d =>
    obtain ⟨p, h1, h2, h3, h4⟩ := h
    refine ⟨.ref p, h1, ?_⟩
    cases d with
    | list ds =>
      obtain ⟨xs, h5, h6⟩ := h4
      exact .inr (.inl ⟨p, xs, ds, rfl, rfl, h5, h6⟩)
    | dict ds =>
      obtain ⟨xs, h5, h6⟩ := h4
      exact .inr (.inr ⟨p, xs, ds, rfl, rfl, h5, h6⟩)
    | none => exact h4.elim
    | bool b => exact h4.elim
    | int b => exact h4.elim
    | str b => exact h4.elim
    | tuple b => exact h4.elim
theorem set_is {α : Type} {l : List α} {i j : Nat} {a b : α} (h : (l.set i a)[j]? = some b) : (i = j ∧ a = b) ∨ (i ≠ j ∧ l[j]? = some b) := by
  by_cases c : i = j
  · subst c
    by_cases hl : i < l.length
    · rw [List.getElem?_set_self hl] at h
      exact .inl ⟨rfl, Option.some.inj h⟩
    · rw [List.getElem?_eq_none (by rw [List.length_set]; omega)] at h
      cases h
  · rw [List.getElem?_set_ne c] at h
    exact .inr ⟨c, h⟩
theorem ftc_set {H H' : Hp} {σ : L2.St} {r : Env} {i j : Nat} {s : Sl} {v : Option V} {a : Addr} (ns : ∀ c, s ≠ .cm c) (f : FtC H' (σ.set i v) (r.set i s) j a) (eh : ∀ p, FtC H σ r j p → H' p = H p := by exact fun _ _ => rfl) : FtC H σ r j a := by
  refine f.to (fun c e => ?_) (fun c e => ?_) eh
  · rcases set_is e with ⟨_, z⟩ | ⟨_, z⟩
    · exact absurd z (ns c)
    · exact z
  · rcases set_is e with ⟨_, z⟩ | ⟨z, _⟩
    · exact absurd z (ns c)
    · exact List.getElem?_set_ne z
theorem ftc_set' {H H' : Hp} {σ : L2.St} {r : Env} {i j : Nat} {s : Sl} {a : Addr} (ns : ∀ c, s ≠ .cm c) (f : FtC H' σ (r.set i s) j a) (eh : ∀ p, FtC H σ r j p → H' p = H p := by exact fun _ _ => rfl) : FtC H σ r j a := by
  refine f.to (fun c e => ?_) (fun c e => rfl) eh
  rcases set_is e with ⟨_, z⟩ | ⟨_, z⟩
  · exact absurd z (ns c)
  · exact z
theorem own1_set {σ : L2.St} {r : Env} {i j : Nat} {s : Sl} {v : Option V} {a : Addr} (ns : ∀ d, s ≠ .ow d) (f : Own1 (σ.set i v) (r.set i s) j a) : Own1 σ r j a := by
  obtain ⟨d, e1, e2⟩ := f
  rcases set_is e1 with ⟨_, z⟩ | ⟨z, e1⟩
  · exact absurd z (ns d)
  · rw [List.getElem?_set_ne z] at e2
    exact ⟨d, e1, e2⟩
theorem own1_set' {σ : L2.St} {r : Env} {i j : Nat} {s : Sl} {a : Addr} (ns : ∀ d, s ≠ .ow d) (f : Own1 σ (r.set i s) j a) : Own1 σ r j a := by
  obtain ⟨d, e1, e2⟩ := f
  rcases set_is e1 with ⟨_, z⟩ | ⟨z, e1⟩
  · exact absurd z (ns d)
  · exact ⟨d, e1, e2⟩
end Mi

namespace Mi
open PySem PySem.Spec PyProof.Rows L2

def Pw {α : Type} (cls : String → Value) (B H : Hp) (σ : L2.St) (W : WX) (φ : α → Hp → Hp → Prop) : R α → Prop
  | .ok a => ∀ B' H', Stp B H B' H' → φ a B' H'
  | .er c => ∀ B' H', Stp B H B' H' → W (cls c) none σ H'
  | .no => False
section
variable {α β : Type} {cls : String → Value} {B H B' H' : Hp} {σ : L2.St} {W : WX} {φ ψ : α → Hp → Hp → Prop} {χ : β → Hp → Hp → Prop}
theorem Pw.stp {x : R α} (p : Pw cls B H σ W φ x) (s : Stp B H B' H') : Pw cls B' H' σ W φ x := by
  cases x with
  | ok a => exact fun B2 H2 s2 => p B2 H2 (s.trans s2)
  | er c => exact fun B2 H2 s2 => p B2 H2 (s.trans s2)
  | no => exact p
theorem Pw.bind {x : R α} {g : α → R β} (p : Pw cls B H σ W χ (x.bind g)) : Pw cls B H σ W (fun a B' H' => Pw cls B' H' σ W χ (g a)) x := by
  cases x with
  | ok a => exact fun B2 H2 s2 => Pw.stp p s2
  | er c => exact p
  | no => exact p
theorem Pw.imp {x : R α} (p : Pw cls B H σ W φ x) (h : ∀ a B' H', Stp B H B' H' → φ a B' H' → ψ a B' H') : Pw cls B H σ W ψ x := by
  cases x with
  | ok a => exact fun B2 H2 s2 => h a B2 H2 s2 (p B2 H2 s2)
  | er c => exact p
  | no => exact p
def R.calm (x : R α) : R α := match x with
  | .ok a => .ok a
  | _ => .no
theorem Pw.calm {x : R α} (p : Pw cls B H σ W φ x.calm) : ∃ a, x = .ok a ∧ ∀ B' H', Stp B H B' H' → φ a B' H' := by
  cases x with
  | ok a => exact ⟨a, rfl, p⟩
  | er c => exact p.elim
  | no => exact p.elim
@[simp] theorem R.calm_ok (a : α) : R.calm (.ok a) = .ok a := rfl
@[simp] theorem R.calm_no : R.calm (.no : R α) = .no := rfl
end
inductive RrAll (K : PySem.W.Frag) (B H : Hp) : List V → List Da → Prop
  | nil : RrAll K B H [] []
  | cons {v : V} {vs : List V} {d : Da} {ds : List Da} : Rr K B H v d → RrAll K B H vs ds → RrAll K B H (v :: vs) (d :: ds)
theorem RrAll.stp {K : PySem.W.Frag} {B H B' H' : Hp} (s : Stp B H B' H') : ∀ {vs : List V} {ds : List Da}, RrAll K B H vs ds → RrAll K B' H' vs ds
  | _, _, .nil => .nil
  | _, _, .cons h r => .cons (h.stp s) (r.stp s)
abbrev WfE (K : PySem.W.Frag) (Q : VK) : Da → Hp → Hp → Prop := fun d B' H' => ∀ v, Rep K B' v d → Q v H'
abbrev WfR (K : PySem.W.Frag) (Q : VK) : Da → Hp → Hp → Prop := fun d B' H' => ∀ v, Rr K B' H' v d → Q v H'
abbrev WfF (K : PySem.W.Frag) (H : Hp) (Q : VK) : Da → Hp → Hp → Prop := fun d B' H' => ∀ p, H p = none → B' p = none → OwnD K B' H' p d → Q (.ref p) H'
abbrev WfT (Q : Bool → Hp → Prop) : Bool → Hp → Hp → Prop := fun b _ H' => Q b H'
abbrev WfA (K : PySem.W.Frag) (Q : List V → Hp → Prop) : List Da → Hp → Hp → Prop := fun ds B' H' => ∀ vs, RepAll K B' vs ds → Q vs H'
abbrev WfB (K : PySem.W.Frag) (Q : List V → Hp → Prop) : List Da → Hp → Hp → Prop := fun ds B' H' => ∀ vs, RrAll K B' H' vs ds → Q vs H'

section
variable (cls : String → Value) (X : Cx) (W : WX)
structure DE (e : Expr) (f : Env → R Da) : Prop where
  run : ∃ t, PE X e t ∧ ∀ (F B H : Hp) (σ : L2.St) (r : Env) (Q : VK), Ok X.K F B H σ r → Pw cls B H σ W (WfE X.K Q) (f r) → t σ H Q
structure DR (e : Expr) (f : Env → R Da) : Prop where
  run : ∃ t, PE X e t ∧ ∀ (F B H : Hp) (σ : L2.St) (r : Env) (Q : VK), Ok X.K F B H σ r → Pw cls B H σ W (WfR X.K Q) (f r) → t σ H Q
structure DF (e : Expr) (f : Env → R Da) : Prop where
  run : ∃ t, PE X e t ∧ ∀ (F B H : Hp) (σ : L2.St) (r : Env) (Q : VK), Ok X.K F B H σ r → Pw cls B H σ W (WfF X.K H Q) (f r) → t σ H Q
structure DT (e : Expr) (f : Env → R Bool) : Prop where
  run : ∃ t, PT X e t ∧ ∀ (F B H : Hp) (σ : L2.St) (r : Env) (Q : Bool → Hp → Prop), Ok X.K F B H σ r → Pw cls B H σ W (WfT Q) (f r) → t σ H Q
structure DW (e : Expr) (f : Env → R Bool) : Prop where
  run : ∃ t, PW X e t ∧ ∀ (F B H : Hp) (σ : L2.St) (r : Env) (Q : Bool → Hp → Prop), Ok X.K F B H σ r → Pw cls B H σ W (WfT Q) (f r) → t σ H Q
structure DA (es : List Expr) (f : Env → R (List Da)) : Prop where
  run : ∃ t, PA X es t ∧ ∀ (F B H : Hp) (σ : L2.St) (r : Env) (Q : List V → Hp → Prop), Ok X.K F B H σ r → Pw cls B H σ W (WfA X.K Q) (f r) → t σ H Q
structure DB (es : List Expr) (f : Env → R (List Da)) : Prop where
  run : ∃ t, PA X es t ∧ ∀ (F B H : Hp) (σ : L2.St) (r : Env) (Q : List V → Hp → Prop), Ok X.K F B H σ r → Pw cls B H σ W (WfB X.K Q) (f r) → t σ H Q
end

section
variable {cls : String → Value} {X : Cx} {W : WX}

theorem DE.r {e : Expr} {f : Env → R Da} (h : DE cls X W e f) : DR cls X W e f := by
  obtain ⟨t, ht, h⟩ := h.run
  exact ⟨t, ht, fun F B H σ r Q k p => h F B H σ r Q k (p.imp fun d B' H' s q v hv => q v (.inl hv))⟩
theorem rr_own {K : PySem.W.Frag} {B H : Hp} {p : Addr} : ∀ {d : Da}, OwnD K B H p d → Rr K B H (.ref p) d
  | .list _, ⟨xs, h, r⟩ => .inr (.inl ⟨p, xs, _, rfl, rfl, h, r⟩)
  | .dict _, ⟨xs, h, r⟩ => .inr (.inr ⟨p, xs, _, rfl, rfl, h, r⟩)
theorem DF.r {e : Expr} {f : Env → R Da} (h : DF cls X W e f) : DR cls X W e f := by
  obtain ⟨t, ht, h⟩ := h.run
  exact ⟨t, ht, fun F B H σ r Q k p => h F B H σ r Q k (p.imp fun d B' H' s q v _ _ hv => q _ (rr_own hv))⟩
def isL : Da → R Da
  | .list ds => .ok (.list ds)
  | _ => .no
def eFz (f : Env → R Da) : Env → R Da := fun r => (f r).bind isL
theorem frz_list {K : PySem.W.Frag} {B H B' H' : Hp} {p : Addr} {ds : List Da} (s : Stp B H B' H') (n : H p = none) (b : B' p = none) (o : OwnD K B' H' p (.list ds)) : ∃ B2, Stp B H B2 H' ∧ Le B' B2 ∧ Rep K B2 (.ref p) (.list ds) := by
  obtain ⟨xs, h, r⟩ := o
  have l : Le B' (upd B' p (.lst xs)) := Le.new b
  refine ⟨upd B' p (.lst xs), ⟨s.gr.trans ⟨l, fun a u e => upd_ne (ne_of_none e n), (NewFL.refl _).upd⟩, s.bh.add h, s.hh⟩, l, .lst (.inl (.inl upd_same)) (r.mono l)⟩
theorem DF.e {e : Expr} {f : Env → R Da} (h : DF cls X W e f) : DE cls X W e (eFz f) := by
  obtain ⟨t, ht, h⟩ := h.run
  refine ⟨t, ht, fun F B H σ r Q k p => h F B H σ r Q k ?_⟩
  unfold eFz at p
  cases q : f r with
  | ok d =>
    rw [q] at p
    intro B' H' s a n b o
    cases d with
    | list ds =>
      obtain ⟨B2, s2, _, hr⟩ := frz_list s n b o
      exact p B2 H' s2 _ hr
    | none => exact o.elim
    | bool b => exact o.elim
    | int b => exact o.elim
    | str b => exact o.elim
    | tuple b => exact o.elim
    | dict b => exact p.elim
  | er c =>
    rw [q] at p
    exact p
  | no =>
    rw [q] at p
    exact p

def eVar (i : Nat) : Env → R Da := fun r => match r[i]? with
  | some (.fz d) => .ok d
  | _ => .no
def eRd (i : Nat) : Env → R Da := fun r => match r[i]? with
  | some (.fz d) => .ok d
  | some (.ow d) => .ok d
  | _ => .no
def eC (d : Da) : Env → R Da := fun _ => .ok d
theorem de_var (i : Nat) {x : Str} {pos : Pos} (hN : X.N[i]? = some x := by rfl) (hv : Vis X.env.scope x := by first | exact Or.inl rfl | exact Or.inr (Or.inl rfl) | exact Or.inr (Or.inr rfl))
    (hd : (x == ("__debug__" : Str)) = false := by decide) (hcd : (x == ("__classdict__" : Str)) = false := by decide) : DE cls X W (.Name x pos) (eVar i) := by
  refine ⟨_, pe_var hN hv hd hcd, fun F B H σ r Q k p => ?_⟩
  unfold eVar at p
  split at p
  · rename_i d e
    obtain ⟨v, h1, h2⟩ := k.rd e
    exact ⟨v, h1, p B H (Stp.refl k.bh) v h2⟩
  · exact p.elim
theorem dr_var (i : Nat) {x : Str} {pos : Pos} (hN : X.N[i]? = some x := by rfl) (hv : Vis X.env.scope x := by first | exact Or.inl rfl | exact Or.inr (Or.inl rfl) | exact Or.inr (Or.inr rfl))
    (hd : (x == ("__debug__" : Str)) = false := by decide) (hcd : (x == ("__classdict__" : Str)) = false := by decide) : DR cls X W (.Name x pos) (eRd i) := by
  refine ⟨_, pe_var hN hv hd hcd, fun F B H σ r Q k p => ?_⟩
  unfold eRd at p
  split at p
  · rename_i d e
    obtain ⟨v, h1, h2⟩ := k.rd e
    exact ⟨v, h1, p B H (Stp.refl k.bh) v (.inl h2)⟩
  · rename_i d e
    obtain ⟨v, h1, h2⟩ := k.rd e
    exact ⟨v, h1, p B H (Stp.refl k.bh) v h2⟩
  · exact p.elim
theorem de_int {i : Int} {j : Nat} {pos : Pos} : DE cls X W (.Constant (.int i) j pos) (eC (.int i)) := ⟨_, pe_int, fun F B H σ r Q k p => p B H (Stp.refl k.bh) _ (.int i)⟩
theorem de_str {i : Str} {j : Nat} {pos : Pos} : DE cls X W (.Constant (.str i) j pos) (eC (.str i)) := ⟨_, pe_str, fun F B H σ r Q k p => p B H (Stp.refl k.bh) _ (.str i)⟩
theorem de_bl {i : Bool} {j : Nat} {pos : Pos} : DE cls X W (.Constant (.bool i) j pos) (eC (.bool i)) := ⟨_, pe_bl, fun F B H σ r Q k p => p B H (Stp.refl k.bh) _ (.bl i)⟩
theorem de_non {j : Nat} {pos : Pos} : DE cls X W (.Constant .none j pos) (eC .none) := ⟨_, pe_non, fun F B H σ r Q k p => p B H (Stp.refl k.bh) _ .non⟩
theorem de_globI {x : Str} {i : Int} {tk : Tok} {pos : Pos} (hm : X.mg x = some (.int i tk)) (hg : Gl X x := by rfl) (hd : (x == ("__debug__" : Str)) = false := by decide) : DE cls X W (.Name x pos) (eC (.int i)) :=
  ⟨_, pe_glob (v := .int i) hg hm ⟨_, rfl⟩ hd, fun F B H σ r Q k p => p B H (Stp.refl k.bh) _ (.int i)⟩
def rD (K : PySem.W.Frag) (g : Da → Da → R Da) : R2 := fun x y H Q => ∃ B dx dy d, Le B H ∧ Rr K B H x dx ∧ Rr K B H y dy ∧ g dx dy = .ok d ∧ ∀ B' H' v, Stp B H B' H' → Rep K B' v d → Q v H'
def eBin (g : Da → Da → R Da) (fa fb : Env → R Da) : Env → R Da := fun r => (fa r).bind fun x => (fb r).bind fun y => (g x y).calm
theorem run2 {ta tb : TE} {fa fb : Env → R Da} {F B H : Hp} {σ : L2.St} {r : Env} {g : Da → Da → R Da} {Q : VK}
    (ha : ∀ (F B H : Hp) (σ : L2.St) (r : Env) (Q : VK), Ok X.K F B H σ r → Pw cls B H σ W (WfR X.K Q) (fa r) → ta σ H Q)
    (hb : ∀ (F B H : Hp) (σ : L2.St) (r : Env) (Q : VK), Ok X.K F B H σ r → Pw cls B H σ W (WfR X.K Q) (fb r) → tb σ H Q) (k : Ok X.K F B H σ r)
    (p : Pw cls B H σ W (WfE X.K Q) (eBin g fa fb r)) : tOp (rD X.K g) ta tb σ H Q := by
  refine ha F B H σ r _ k (p.bind.imp fun dx B1 H1 s1 p1 x hx => hb F B1 H1 σ r _ (k.stp s1) (p1.bind.imp fun dy B2 H2 s2 p2 y hy => ?_))
  obtain ⟨d, e, h⟩ := p2.calm
  exact ⟨B2, dx, dy, d, s2.bh, hx.stp s2, hy, e, fun B' H' v s hv => h B' H' s v hv⟩
theorem de_op {op : Operator} {g : Da → Da → R Da} {a b : Expr} {fa fb : Env → R Da} {pos : Pos} (ho : OpR X (binaryOp op) (rD X.K g)) (ha : DR cls X W a fa) (hb : DR cls X W b fb) : DE cls X W (.BinOp a op b pos) (eBin g fa fb) := by
  obtain ⟨ta, pa, ha⟩ := ha.run
  obtain ⟨tb, pb, hb⟩ := hb.run
  exact ⟨_, pe_op ho pa pb, fun F B H σ r Q k p => run2 ha hb k p⟩
theorem de_cmp {op : CmpOp} {g : Da → Da → R Da} {a b : Expr} {fa fb : Env → R Da} {pos : Pos} (ho : OpR X (compareOp op) (rD X.K g)) (ha : DR cls X W a fa) (hb : DR cls X W b fb) (hm : behindInMarks op b = false := by first | exact nomark _ | rfl) :
    DE cls X W (.Compare a [op] [b] pos) (eBin g fa fb) := by
  obtain ⟨ta, pa, ha⟩ := ha.run
  obtain ⟨tb, pb, hb⟩ := hb.run
  exact ⟨_, pe_cmpR ho pa pb hm, fun F B H σ r Q k p => run2 ha hb k p⟩
def isB : Da → R Bool
  | .bool b => .ok b
  | _ => .no
def tB (f : Env → R Da) : Env → R Bool := fun r => (f r).bind isB
theorem tB_post {B H : Hp} {σ : L2.St} {Q : Bool → Hp → Prop} {f : Env → R Da} {r : Env} (p : Pw cls B H σ W (WfT Q) (tB f r)) : Pw cls B H σ W (WfE X.K fun v H' => ∃ k, v = .bl k ∧ Q k H') (f r) := by
  refine p.bind.imp fun d B' H' s q v hv => ?_
  cases d with
  | bool b =>
    cases hv
    exact ⟨b, rfl, q B' H' (Stp.refl s.bh)⟩
  | none => exact q.elim
  | int b => exact q.elim
  | str b => exact q.elim
  | tuple b => exact q.elim
  | list b => exact q.elim
  | dict b => exact q.elim
theorem dt_cmp {op : CmpOp} {g : Da → Da → R Da} {a b : Expr} {fa fb : Env → R Da} {pos : Pos} (ho : OpR X (compareOp op) (rD X.K g)) (ha : DR cls X W a fa) (hb : DR cls X W b fb) (hm : behindInMarks op b = false := by first | exact nomark _ | rfl) :
    DT cls X W (.Compare a [op] [b] pos) (tB (eBin g fa fb)) := by
  obtain ⟨ta, pa, ha⟩ := ha.run
  obtain ⟨tb, pb, hb⟩ := hb.run
  exact ⟨_, pt_cmpR ho pa pb hm, fun F B H σ r Q k p => run2 ha hb k (tB_post p)⟩
def eChain (g g' : Da → Da → R Da) (fa fb fc : Env → R Da) : Env → R Da := fun r => (fa r).bind fun x => (fb r).bind fun y => (g x y).calm.bind fun z => match z with
  | .bool true => (fc r).bind fun u => (g' y u).calm
  | .bool false => .ok (.bool false)
  | _ => .no
theorem chain_run {ta tb tc : TE} {fa fb fc : Env → R Da} {F B H : Hp} {σ : L2.St} {r : Env} {g g' : Da → Da → R Da} {Q : VK}
    (ha : ∀ (F B H : Hp) (σ : L2.St) (r : Env) (Q : VK), Ok X.K F B H σ r → Pw cls B H σ W (WfR X.K Q) (fa r) → ta σ H Q)
    (hb : ∀ (F B H : Hp) (σ : L2.St) (r : Env) (Q : VK), Ok X.K F B H σ r → Pw cls B H σ W (WfR X.K Q) (fb r) → tb σ H Q)
    (hc : ∀ (F B H : Hp) (σ : L2.St) (r : Env) (Q : VK), Ok X.K F B H σ r → Pw cls B H σ W (WfR X.K Q) (fc r) → tc σ H Q) (k : Ok X.K F B H σ r)
    (p : Pw cls B H σ W (WfE X.K Q) (eChain g g' fa fb fc r)) : tChain (rD X.K g) (rD X.K g') ta tb tc σ H Q := by
  refine ha F B H σ r _ k (p.bind.imp fun dx B1 H1 s1 p1 x hx => hb F B1 H1 σ r _ (k.stp s1) (p1.bind.imp fun dy B2 H2 s2 p2 y hy => ?_))
  obtain ⟨d, e, h⟩ := p2.bind.calm
  refine ⟨B2, dx, dy, d, s2.bh, hx.stp s2, hy, e, fun B3 H3 v s3 hv => ?_⟩
  have h := h B3 H3 s3
  cases d with
  | bool b =>
    cases hv
    refine ⟨b, rfl, ?_⟩
    cases b with
    | true =>
      rw [if_pos rfl]
      refine hc F B3 H3 σ r _ ((k.stp s1).stp (s2.trans s3)) (h.bind.imp fun du B4 H4 s4 p4 u hu => ?_)
      obtain ⟨d', e', h'⟩ := p4.calm
      exact ⟨B4, dy, du, d', s4.bh, (hy.stp s3).stp s4, hu, e', fun B' H' v s hv => h' B' H' s v hv⟩
    | false =>
      rw [if_neg Bool.false_ne_true]
      exact h B3 H3 (Stp.refl s3.bh) _ (.bl false)
  | none => exact h.elim
  | int b => exact h.elim
  | str b => exact h.elim
  | tuple b => exact h.elim
  | list b => exact h.elim
  | dict b => exact h.elim

def truthD : Da → R Bool
  | .none => .ok false
  | .bool b => .ok b
  | .int i => .ok (i != 0)
  | .str x => if x.length ≤ 100000 then .ok (x.length != 0) else .no
  | .list xs => .ok (!xs.isEmpty)
  | .tuple xs => .ok (!xs.isEmpty)
  | .dict _ => .no
def tTru (f : Env → R Da) : Env → R Bool := fun r => (f r).bind truthD
theorem sz {n : Nat} (h : n ≤ 100000) : n ≤ sizeLine := Nat.le_trans h (by decide)
theorem szlt {n : Nat} (h : n < 100000) : n < sizeLine := Nat.lt_of_lt_of_le h (by decide)
theorem empty_of {K : PySem.W.Frag} {B : Hp} {vs : List V} {ds : List Da} (r : RepAll K B vs ds) : (!vs.isEmpty) = !ds.isEmpty := by
  cases r <;> rfl
theorem truth_ok {K : PySem.W.Frag} {B H : Hp} {v : V} {d : Da} {b : Bool} (l : Le B H) (h : Rr K B H v d) (e : truthD d = .ok b) : TruV K v H b := by
  cases d with
  | none =>
    cases e
    rw [h.none]
    exact rfl
  | bool c =>
    cases e
    rw [h.bool]
    exact rfl
  | int i =>
    cases e
    rw [h.int]
    exact rfl
  | str x =>
    rw [h.str]
    have e : (if x.length ≤ 100000 then R.ok (x.length != 0) else R.no) = R.ok b := e
    by_cases q : x.length ≤ 100000
    · rw [if_pos q] at e
      cases e
      refine ⟨sz q, ?_⟩
      cases hx : x.length with
      | zero => rfl
      | succ n =>
        have h1 : ((n + 1 : Nat) != 0) = true := by simp
        have h2 : (((n + 1 : Nat) : Int) != 0) = true := by
          rw [bne_iff_ne]
          omega
        rw [h1, h2]
    · rw [if_neg q] at e
      cases e
  | list ds =>
    cases e
    obtain ⟨p, xs, rfl, h1, h2⟩ := h.list l
    exact .inl ⟨xs, h1, (empty_of h2).symm⟩
  | tuple ds =>
    cases e
    obtain ⟨p, xs, rfl, h1, h2, h3⟩ := h.tuple l
    exact .inr (.inl ⟨xs, h1, (empty_of h3).symm⟩)
  | dict ds => cases e
theorem truth_no : ∀ (d : Da) (c : String), truthD d ≠ .er c := fun d c e => by
  cases d with
  | str x =>
    have e : (if x.length ≤ 100000 then R.ok (x.length != 0) else R.no) = R.er c := e
    by_cases q : x.length ≤ 100000
    · rw [if_pos q] at e
      cases e
    · rw [if_neg q] at e
      cases e
  | none => cases e
  | bool b => cases e
  | int b => cases e
  | tuple b => cases e
  | list b => cases e
  | dict b => cases e
theorem truth_post {B H : Hp} {σ : L2.St} {Q : Bool → Hp → Prop} {f : Env → R Da} {r : Env} (p : Pw cls B H σ W (WfT Q) (tTru f r)) : Pw cls B H σ W (WfR X.K fun v H' => ∃ k, TruV X.K v H' k ∧ Q k H') (f r) := by
  refine p.bind.imp fun d B' H' s q v hv => ?_
  cases e : truthD d with
  | ok b =>
    rw [e] at q
    exact ⟨b, truth_ok s.bh hv e, q B' H' (Stp.refl s.bh)⟩
  | er c => exact (truth_no d c e).elim
  | no =>
    rw [e] at q
    exact q.elim
theorem dt_tru {a : Expr} {fa : Env → R Da} (ha : DR cls X W a fa) (he : ∀ whole, isTrue a X.env whole = (do let v ← whole; standAt a.pos; holding [v] (truthy v)) := by intro _; rfl) : DT cls X W a (tTru fa) := by
  obtain ⟨ta, pa, ha⟩ := ha.run
  exact ⟨_, pt_truth pa he, fun F B H σ r Q k p => ha F B H σ r _ k (truth_post p)⟩
def tNot (f : Env → R Bool) : Env → R Bool := fun r => (f r).bind fun b => .ok (!b)
def tAnd (f g : Env → R Bool) : Env → R Bool := fun r => (f r).bind fun b => if b then g r else .ok false
def tOr (f g : Env → R Bool) : Env → R Bool := fun r => (f r).bind fun b => if b then .ok true else g r
theorem dt_not {a : Expr} {f : Env → R Bool} {pos : Pos} (ha : DT cls X W a f) : DT cls X W (.UnaryOp .Not a pos) (tNot f) := by
  obtain ⟨ta, pa, ha⟩ := ha.run
  exact ⟨_, pt_not pa, fun F B H σ r Q k p => ha F B H σ r _ k (p.bind.imp fun b B' H' s q => q B' H' (Stp.refl s.bh))⟩
theorem DW.t {e : Expr} {f : Env → R Bool} (h : DW cls X W e f) : DT cls X W e f := by
  obtain ⟨t, ht, h⟩ := h.run
  exact ⟨t, ht.pt, h⟩
theorem dw_and1 {a : Expr} {f : Env → R Bool} {pos : Pos} (ha : DT cls X W a f) : DW cls X W (.BoolOp .And [a] pos) f := by
  obtain ⟨t, ht, h⟩ := ha.run
  exact ⟨t, pw_and1 ht, h⟩
theorem dw_or1 {a : Expr} {f : Env → R Bool} {pos : Pos} (ha : DT cls X W a f) : DW cls X W (.BoolOp .Or [a] pos) f := by
  obtain ⟨t, ht, h⟩ := ha.run
  exact ⟨t, pw_or1 ht, h⟩
theorem dw_and {a b : Expr} {rest : List Expr} {f g : Env → R Bool} {pos : Pos} (ha : DT cls X W a f) (hb : DW cls X W (.BoolOp .And (b :: rest) pos) g) : DW cls X W (.BoolOp .And (a :: b :: rest) pos) (tAnd f g) := by
  obtain ⟨ta, pa, ha⟩ := ha.run
  obtain ⟨tb, pb, hb⟩ := hb.run
  refine ⟨_, pw_and pa pb, fun F B H σ r Q k p => ha F B H σ r _ k (p.bind.imp fun b B' H' s q => ?_)⟩
  cases b with
  | true => exact hb F B' H' σ r Q (k.stp s) q
  | false => exact q B' H' (Stp.refl s.bh)
theorem dw_or {a b : Expr} {rest : List Expr} {f g : Env → R Bool} {pos : Pos} (ha : DT cls X W a f) (hb : DW cls X W (.BoolOp .Or (b :: rest) pos) g) : DW cls X W (.BoolOp .Or (a :: b :: rest) pos) (tOr f g) := by
  obtain ⟨ta, pa, ha⟩ := ha.run
  obtain ⟨tb, pb, hb⟩ := hb.run
  refine ⟨_, pw_or pa pb, fun F B H σ r Q k p => ha F B H σ r _ k (p.bind.imp fun b B' H' s q => ?_)⟩
  cases b with
  | true => exact q B' H' (Stp.refl s.bh)
  | false => exact hb F B' H' σ r Q (k.stp s) q
theorem de_chain {op op' : CmpOp} {g g' : Da → Da → R Da} {a b c : Expr} {fa fb fc : Env → R Da} {pos : Pos} (ho : OpR X (compareOp op) (rD X.K g)) (ho' : OpR X (compareOp op') (rD X.K g')) (ha : DR cls X W a fa) (hb : DR cls X W b fb) (hc : DR cls X W c fc) (hm : lastMarks [op, op'] [b, c] = false := by with_unfolding_all rfl) :
    DE cls X W (.Compare a [op, op'] [b, c] pos) (eChain g g' fa fb fc) := by
  obtain ⟨ta, pa, ha⟩ := ha.run
  obtain ⟨tb, pb, hb⟩ := hb.run
  obtain ⟨tc, pc, hc⟩ := hc.run
  exact ⟨_, pe_chain ho ho' pa pb pc hm, fun F B H σ r Q k p => chain_run ha hb hc k p⟩

def eAnd (f g : Env → R Da) : Env → R Da := fun r => (f r).bind fun d => match d with
  | .bool true => g r
  | .bool false => .ok (.bool false)
  | _ => .no
def eOr (f g : Env → R Da) : Env → R Da := fun r => (f r).bind fun d => match d with
  | .bool true => .ok (.bool true)
  | .bool false => g r
  | _ => .no
def eIf (c : Env → R Bool) (f g : Env → R Da) : Env → R Da := fun r => (c r).bind fun b => if b then f r else g r
theorem de_one {op : BoolOp} {a : Expr} {f : Env → R Da} {pos : Pos} (ha : DE cls X W a f) : DE cls X W (.BoolOp op [a] pos) f := by
  obtain ⟨t, ht, h⟩ := ha.run
  exact ⟨t, pe_one ht, h⟩
theorem de_and {a b : Expr} {rest : List Expr} {f g : Env → R Da} {pos : Pos} (ha : DE cls X W a f) (hb : DE cls X W (.BoolOp .And (b :: rest) pos) g) : DE cls X W (.BoolOp .And (a :: b :: rest) pos) (eAnd f g) := by
  obtain ⟨ta, pa, ha⟩ := ha.run
  obtain ⟨tb, pb, hb⟩ := hb.run
  refine ⟨_, pe_and pa pb, fun F B H σ r Q k p => ha F B H σ r _ k (p.bind.imp fun d B' H' s q v hv => ?_)⟩
  cases d with
  | bool b =>
    cases hv
    refine ⟨b, rfl, ?_⟩
    cases b with
    | true => exact hb F B' H' σ r Q (k.stp s) q
    | false => exact q B' H' (Stp.refl s.bh) _ (.bl false)
  | none => exact q.elim
  | int b => exact q.elim
  | str b => exact q.elim
  | tuple b => exact q.elim
  | list b => exact q.elim
  | dict b => exact q.elim
theorem de_if {c a b : Expr} {f : Env → R Bool} {g h : Env → R Da} {pos : Pos} (hc : DT cls X W c f) (ha : DE cls X W a g) (hb : DE cls X W b h) : DE cls X W (.IfExp c a b pos) (eIf f g h) := by
  obtain ⟨tc, pc, hc⟩ := hc.run
  obtain ⟨ta, pa, ha⟩ := ha.run
  obtain ⟨tb, pb, hb⟩ := hb.run
  refine ⟨_, pe_ifExp pc pa pb, fun F B H σ r Q k p => hc F B H σ r _ k (p.bind.imp fun b B' H' s q => ?_)⟩
  cases b with
  | true => exact ha F B' H' σ r Q (k.stp s) q
  | false => exact hb F B' H' σ r Q (k.stp s) q
def aNil : Env → R (List Da) := fun _ => .ok []
def aCons (f : Env → R Da) (g : Env → R (List Da)) : Env → R (List Da) := fun r => (f r).bind fun d => (g r).bind fun ds => .ok (d :: ds)
theorem da_nil : DA cls X W [] aNil := ⟨_, pa_nil, fun F B H σ r Q k p => p B H (Stp.refl k.bh) [] .nil⟩
theorem db_nil : DB cls X W [] aNil := ⟨_, pa_nil, fun F B H σ r Q k p => p B H (Stp.refl k.bh) [] .nil⟩
theorem da_cons {e : Expr} {es : List Expr} {f : Env → R Da} {g : Env → R (List Da)} (ha : DE cls X W e f) (hb : DA cls X W es g) (hs : starEach (e :: es) X.env = (false, eval e X.env) :: starEach es X.env := by rfl) : DA cls X W (e :: es) (aCons f g) := by
  obtain ⟨ta, pa, ha⟩ := ha.run
  obtain ⟨tb, pb, hb⟩ := hb.run
  exact ⟨_, pa_cons pa pb hs, fun F B H σ r Q k p => ha F B H σ r _ k (p.bind.imp fun d B1 H1 s1 p1 v hv => hb F B1 H1 σ r _ (k.stp s1) (p1.bind.imp fun ds B2 H2 s2 p2 vs hvs => p2 B2 H2 (Stp.refl s2.bh) _ (.cons (hv.mono s2.gr.1) hvs)))⟩
theorem db_cons {e : Expr} {es : List Expr} {f : Env → R Da} {g : Env → R (List Da)} (ha : DR cls X W e f) (hb : DB cls X W es g) (hs : starEach (e :: es) X.env = (false, eval e X.env) :: starEach es X.env := by rfl) : DB cls X W (e :: es) (aCons f g) := by
  obtain ⟨ta, pa, ha⟩ := ha.run
  obtain ⟨tb, pb, hb⟩ := hb.run
  exact ⟨_, pa_cons pa pb hs, fun F B H σ r Q k p => ha F B H σ r _ k (p.bind.imp fun d B1 H1 s1 p1 v hv => hb F B1 H1 σ r _ (k.stp s1) (p1.bind.imp fun ds B2 H2 s2 p2 vs hvs => p2 B2 H2 (Stp.refl s2.bh) _ (.cons (hv.stp s2) hvs)))⟩
def mkT (ds : List Da) : R Da := if ds.length ≤ 100000 then .ok (.tuple ds) else .no
def mkL (ds : List Da) : R Da := if ds.length ≤ 100000 then .ok (.list ds) else .no
def eTup (f : Env → R (List Da)) : Env → R Da := fun r => (f r).bind mkT
def eLst (f : Env → R (List Da)) : Env → R Da := fun r => (f r).bind mkL
theorem de_tup {es : List Expr} {f : Env → R (List Da)} {n : Nat} {pos : Pos} (h : DA cls X W es f) : DE cls X W (.Tuple es n pos) (eTup f) := by
  obtain ⟨t, ht, h⟩ := h.run
  refine ⟨_, pe_tupP (x1 := n) ht, fun F B H σ r Q k p => h F B H σ r _ k (p.bind.imp fun ds B' H' s q vs hv => ?_)⟩
  unfold mkT at q
  split at q
  · rename_i hl
    refine ⟨by rw [hv.length]; exact sz hl, fun a o ha hd => q (upd B' a (.frz o (.tup vs))) _ (Stp.new s.bh ha) _ (.tup (.new hd) (hv.mono (Le.new (s.bh.back ha))))⟩
  · exact q.elim
theorem df_lst {es : List Expr} {f : Env → R (List Da)} {pos : Pos} (h : DA cls X W es f) : DF cls X W (.List es pos) (eLst f) := by
  obtain ⟨t, ht, h⟩ := h.run
  refine ⟨_, pe_lst ht, fun F B H σ r Q k p => h F B H σ r _ k (p.bind.imp fun ds B' H' s q vs hv => ?_)⟩
  unfold mkL at q
  split at q
  · rename_i hl
    refine ⟨by rw [hv.length]; exact sz hl, fun a ha => q B' _ (Stp.drop s.bh ha) a (s.hh.back ha) (s.bh.back ha) ⟨vs, upd_same, hv⟩⟩
  · exact q.elim
end
end Mi

namespace Mi
open PySem PySem.Spec PyProof.Rows L2

def Ps (K : PySem.W.Frag) (cls : String → Value) (F B : Hp) (D : Ends) (W : WX) : SR → Prop
  | .nx r => ∀ B' H' σ', Gr F B B' → Ok K F B' H' σ' r → D.nx σ' H'
  | .rt d => ∀ B' H' v, Gr F B B' → Le B' H' → Le F H' → Rep K B' v d → D.rt v H'
  | .bk r => ∀ B' H' σ', Gr F B B' → Ok K F B' H' σ' r → D.bk σ' H'
  | .ct r => ∀ B' H' σ', Gr F B B' → Ok K F B' H' σ' r → D.ct σ' H'
  | .er c r => ∀ B' H' σ', Gr F B B' → Ok K F B' H' σ' r → W (cls c) none σ' H'
  | .no => False
section
variable {K : PySem.W.Frag} {cls : String → Value} {F B B' H H' : Hp} {D : Ends} {W : WX} {σ : L2.St} {r : Env}
theorem Ps.gr {x : SR} (p : Ps K cls F B D W x) (g : Gr F B B') : Ps K cls F B' D W x := by
  cases x with
  | nx r => exact fun B2 H2 σ2 g2 k => p B2 H2 σ2 (g.trans g2) k
  | rt d => exact fun B2 H2 v g2 a b k => p B2 H2 v (g.trans g2) a b k
  | bk r => exact fun B2 H2 σ2 g2 k => p B2 H2 σ2 (g.trans g2) k
  | ct r => exact fun B2 H2 σ2 g2 k => p B2 H2 σ2 (g.trans g2) k
  | er c r => exact fun B2 H2 σ2 g2 k => p B2 H2 σ2 (g.trans g2) k
  | no => exact p
def bS {α : Type} (r : Env) (x : R α) (g : α → SR) : SR := match x with
  | .ok a => g a
  | .er c => .er c r
  | .no => .no
theorem Ps.bS {α : Type} {x : R α} {g : α → SR} (p : Ps K cls F B D W (bS r x g)) (k : Ok K F B H σ r) : Pw cls B H σ W (fun a B' H' => Ps K cls F B' D W (g a)) x := by
  cases x with
  | ok a => exact fun B2 H2 s => Ps.gr p (s.grF k.fh)
  | er c => exact fun B2 H2 s => p B2 H2 σ (s.grF k.fh) (k.stp s)
  | no => exact p
theorem Ok.setF {i : Nat} {v : V} {d : Da} (k : Ok K F B H σ r) (h : Rep K B v d) : Ok K F B H (σ.set i (some v)) (r.set i (.fz d)) := by
  refine ⟨k.bh, k.fh, by rw [List.length_set, List.length_set]; exact k.len, fun j s e => ?_, fun j l d1 d2 p ne e1 e2 h1 h2 => ?_, k.tb, k.ci.mv (fun j a f => ftc_set (fun _ z => by cases z) f) fun j a o => .inl (own1_set (fun _ z => by cases z) o)⟩
  · by_cases hj : i = j
    · subst hj
      by_cases hl : i < r.length
      · rw [List.getElem?_set_self hl] at e
        cases e
        exact ⟨v, List.getElem?_set_self (by rw [k.len]; exact hl), h⟩
      · rw [List.getElem?_eq_none (by rw [List.length_set]; omega)] at e
        cases e
    · rw [List.getElem?_set_ne hj] at e
      have q := k.sl j s e
      cases s with
      | un => trivial
      | pn v =>
        have q : σ[j]? = some (some v) := q
        show (σ.set i _)[j]? = _
        rw [List.getElem?_set_ne hj]
        exact q
      | bd b => obtain ⟨v, a, b⟩ := q; exact ⟨v, by rw [List.getElem?_set_ne hj]; exact a, b⟩
      | cm c => obtain ⟨v, a, b⟩ := q; exact ⟨v, by rw [List.getElem?_set_ne hj]; exact a, b⟩
      | fz d => obtain ⟨v, a, b⟩ := q; exact ⟨v, by rw [List.getElem?_set_ne hj]; exact a, b⟩
      | ow d => obtain ⟨v, a, b⟩ := q; exact ⟨v, by rw [List.getElem?_set_ne hj]; exact a, b⟩
  · have nj : i ≠ j := fun z => by
      subst z
      by_cases hl : i < r.length
      · rw [List.getElem?_set_self hl] at e1
        cases e1
      · rw [List.getElem?_eq_none (by rw [List.length_set]; omega)] at e1
        cases e1
    have nl : i ≠ l := fun z => by
      subst z
      by_cases hl : i < r.length
      · rw [List.getElem?_set_self hl] at e2
        cases e2
      · rw [List.getElem?_eq_none (by rw [List.length_set]; omega)] at e2
        cases e2
    rw [List.getElem?_set_ne nj] at e1 h1
    rw [List.getElem?_set_ne nl] at e2 h2
    exact k.inj j l d1 d2 p ne e1 e2 h1 h2
theorem OwnD.at {p : Addr} {d : Da} (h : OwnD K B H p d) (e : H' p = H p) : OwnD K B H' p d := by
  cases d with
  | list ds => obtain ⟨xs, a, b⟩ := h; exact ⟨xs, by rw [e]; exact a, b⟩
  | dict ds => obtain ⟨xs, a, b⟩ := h; exact ⟨xs, by rw [e]; exact a, b⟩
  | none => exact h.elim
  | bool b => exact h.elim
  | int b => exact h.elim
  | str b => exact h.elim
  | tuple b => exact h.elim
theorem Ok.setO {i : Nat} {p : Addr} {d : Da} (k : Ok K F B H σ r) (bh : Le B H') (fh : Le F H') (fp : F p = none) (bp : B p = none) (o : OwnD K B H' p d)
    (ot : ∀ (j : Nat) (e : Da) (q : Addr), j ≠ i → r[j]? = some (.ow e) → σ[j]? = some (some (.ref q)) → q ≠ p ∧ H' q = H q)
    (oc : ∀ (j : Nat) (a : Addr), FtC H σ r j a → a ≠ p ∧ H' a = H a) : Ok K F B H' (σ.set i (some (.ref p))) (r.set i (.ow d)) := by
  refine ⟨bh, fh, by rw [List.length_set, List.length_set]; exact k.len, fun j s e => ?_, fun j l d1 d2 q ne e1 e2 h1 h2 => ?_, k.tb, k.ci.mv (fun j a f => ftc_set (fun _ z => by cases z) f fun p g => (oc j p g).2) fun j a o => ?_⟩
  · by_cases hj : i = j
    · subst hj
      by_cases hl : i < r.length
      · rw [List.getElem?_set_self hl] at e
        cases e
        exact ⟨p, List.getElem?_set_self (by rw [k.len]; exact hl), fp, bp, o⟩
      · rw [List.getElem?_eq_none (by rw [List.length_set]; omega)] at e
        cases e
    · rw [List.getElem?_set_ne hj] at e
      have q := k.sl j s e
      cases s with
      | un => trivial
      | pn v =>
        have q : σ[j]? = some (some v) := q
        show (σ.set i _)[j]? = _
        rw [List.getElem?_set_ne hj]
        exact q
      | bd b => obtain ⟨v, a, b⟩ := q; exact ⟨v, by rw [List.getElem?_set_ne hj]; exact a, b⟩
      | cm c =>
        obtain ⟨v, a, b⟩ := q
        exact ⟨v, by rw [List.getElem?_set_ne hj]; exact a, b.mv (Le.refl _) fun x hx => ⟨(oc j x ⟨c, v, e, a, hx⟩).2, rfl⟩⟩
      | fz d => obtain ⟨v, a, b⟩ := q; exact ⟨v, by rw [List.getElem?_set_ne hj]; exact a, b⟩
      | ow d =>
        obtain ⟨v, a, b1, b2, b3⟩ := q
        exact ⟨v, by rw [List.getElem?_set_ne hj]; exact a, b1, b2, b3.at (ot j d v (Ne.symm hj) e a).2⟩
  · by_cases hj : i = j
    · subst hj
      rw [List.getElem?_set_ne ne] at e2 h2
      by_cases hl : i < r.length
      · rw [List.getElem?_set_self (by rw [k.len]; exact hl)] at h1
        cases h1
        exact (ot l d2 p (Ne.symm ne) e2 h2).1 rfl
      · rw [List.getElem?_eq_none (by rw [List.length_set]; omega)] at e1
        cases e1
    · by_cases hl : i = l
      · subst hl
        rw [List.getElem?_set_ne hj] at e1 h1
        by_cases hl : i < r.length
        · rw [List.getElem?_set_self (by rw [k.len]; exact hl)] at h2
          cases h2
          exact (ot j d1 p (Ne.symm hj) e1 h1).1 rfl
        · rw [List.getElem?_eq_none (by rw [List.length_set]; omega)] at e2
          cases e2
      · rw [List.getElem?_set_ne hj] at e1 h1
        rw [List.getElem?_set_ne hl] at e2 h2
        exact k.inj j l d1 d2 q ne e1 e2 h1 h2
  · obtain ⟨d1, e1, e2⟩ := o
    rcases set_is e1 with ⟨z, z2⟩ | ⟨z, e1⟩
    · subst z
      rcases set_is e2 with ⟨_, z3⟩ | ⟨z3, _⟩
      · cases z3
        exact .inr fun l g => (oc l _ g).1 rfl
      · exact absurd rfl z3
    · rw [List.getElem?_set_ne z] at e2
      exact .inl ⟨d1, e1, e2⟩
theorem Ok.own {i : Nat} {p : Addr} {d : Da} {H0 : Hp} (k : Ok K F B H0 σ r) (s : Stp B H0 B' H') (n : H0 p = none) (bp : B' p = none) (o : OwnD K B' H' p d) : Ok K F B' H' (σ.set i (some (.ref p))) (r.set i (.ow d)) := by
  have k' := k.stp s
  refine k'.setO k'.bh k'.fh (k.fh.back n) bp o (fun j e q _ e1 e2 => ⟨fun z => ?_, rfl⟩) fun j a f => ⟨fun z => ?_, rfl⟩
  · subst z
    have h := k.sl j _ e1
    obtain ⟨p', a, b1, b2, b3⟩ := h
    rw [e2] at a
    cases a
    obtain ⟨u, hu⟩ := b3.there
    rw [n] at hu
    cases hu
  · subst z
    have f : FtC H0 σ r j a := f.to (fun _ z => z) (fun _ _ => rfl) fun p g => (k.stp_at s g).1
    obtain ⟨⟨o, h1, _⟩, _⟩ := k.ftc f
    rw [n] at h1
    cases h1
theorem Ok.put {i : Nat} {p : Addr} {o' : HO} {d0 d : Da} (k : Ok K F B H σ r) (e0 : r[i]? = some (.ow d0)) (h0 : σ[i]? = some (some (.ref p))) (o : OwnD K B (upd H p o') p d) : Ok K F B (upd H p o') σ (r.set i (.ow d)) := by
  have h := k.sl i _ e0
  obtain ⟨p', a, b1, b2, b3⟩ := h
  rw [h0] at a
  cases a
  have es : σ.set i (some (.ref p)) = σ := by
    refine List.ext_getElem? fun j => ?_
    by_cases hj : i = j
    · subst hj
      have hl : i < σ.length := (List.getElem?_eq_some_iff.mp h0).1
      rw [List.getElem?_set_self hl, h0]
    · rw [List.getElem?_set_ne hj]
  have q := k.setO (i := i) (p := p) (d := d) (H' := upd H p o') (k.bh.put b2 b3.nc) (k.fh.put b1 b3.nc) b1 b2 o (fun j e q hj e1 e2 => by
    have ne : q ≠ p := fun z => by
      subst z
      exact k.inj i j d0 e q (Ne.symm hj) e0 e1 h0 e2
    exact ⟨ne, upd_ne ne⟩) fun j a f => by
    have ne : a ≠ p := fun z => by
      subst z
      have nj : j ≠ i := fun z => by
        subst z
        obtain ⟨c, _, e1, _⟩ := f
        rw [e0] at e1
        cases e1
      exact (k.ci j i a nj f).2 ⟨d0, e0, h0⟩
    exact ⟨ne, upd_ne ne⟩
  rw [es] at q
  exact q
theorem Ok.drop {i : Nat} (k : Ok K F B H σ r) : Ok K F B H σ (r.set i .un) := by
  refine ⟨k.bh, k.fh, by rw [List.length_set]; exact k.len, fun j s e => ?_, fun j l d1 d2 p ne e1 e2 h1 h2 => ?_, k.tb, k.ci.mv (fun j a f => ftc_set' (fun _ z => by cases z) f) fun j a o => .inl (own1_set' (fun _ z => by cases z) o)⟩
  · by_cases hj : i = j
    · subst hj
      by_cases hl : i < r.length
      · rw [List.getElem?_set_self hl] at e
        cases e
        trivial
      · rw [List.getElem?_eq_none (by rw [List.length_set]; omega)] at e
        cases e
    · rw [List.getElem?_set_ne hj] at e
      exact k.sl j s e
  · have nj : i ≠ j := fun z => by
      subst z
      by_cases hl : i < r.length
      · rw [List.getElem?_set_self hl] at e1
        cases e1
      · rw [List.getElem?_eq_none (by rw [List.length_set]; omega)] at e1
        cases e1
    have nl : i ≠ l := fun z => by
      subst z
      by_cases hl : i < r.length
      · rw [List.getElem?_set_self hl] at e2
        cases e2
      · rw [List.getElem?_eq_none (by rw [List.length_set]; omega)] at e2
        cases e2
    rw [List.getElem?_set_ne nj] at e1
    rw [List.getElem?_set_ne nl] at e2
    exact k.inj j l d1 d2 p ne e1 e2 h1 h2
theorem Ok.frz {i : Nat} {p : Addr} {o : HO} {d0 d : Da} (k : Ok K F B H σ r) (e0 : r[i]? = some (.ow d0)) (h0 : σ[i]? = some (some (.ref p))) (bp : B p = none) (fp : F p = none) (ho : H' p = some o) (hk : ∀ a, a ≠ p → H' a = H a) (hr : Rep K (upd B p o) (.ref p) d) (po : PlainO o := by exact True.intro) (hf : NoFL o := by exact True.intro) :
    Gr F B (upd B p o) ∧ Ok K F (upd B p o) H' σ (r.set i (.fz d)) := by
  have l : Le B (upd B p o) := Le.new bp
  obtain ⟨p', a0, b01, b02, b03⟩ := k.sl i _ e0
  rw [h0] at a0
  cases a0
  have eH : H' = upd H p o := funext fun a => by
    by_cases q : a = p
    · subst q
      rw [upd_same, ho]
    · rw [upd_ne q, hk a q]
  have bh' : Le B H' := by
    rw [eH]
    exact k.bh.put bp b03.nc
  have np : ∀ (j : Nat) (a : Addr), FtC H σ r j a → a ≠ p := fun j a f z => by
    subst z
    have nj : j ≠ i := fun z => by
      subst z
      obtain ⟨c, _, e1, _⟩ := f
      rw [e0] at e1
      cases e1
    exact (k.ci j i a nj f).2 ⟨d0, e0, h0⟩
  refine ⟨⟨l, fun a u e => upd_ne (ne_of_none e fp), (NewFL.refl _).upd hf⟩, bh'.add ho po, by rw [eH]; exact k.fh.put fp b03.nc, by rw [List.length_set]; exact k.len, fun j s e => ?_, fun j m d1 d2 q ne e1 e2 h1 h2 => ?_, k.tb, k.ci.mv (fun j a f => ftc_set' (fun _ z => by cases z) f fun x g => hk x (np j x g)) fun j a o => .inl (own1_set' (fun _ z => by cases z) o)⟩
  · by_cases hj : i = j
    · subst hj
      by_cases hl : i < r.length
      · rw [List.getElem?_set_self hl] at e
        cases e
        exact ⟨.ref p, h0, hr⟩
      · rw [List.getElem?_eq_none (by rw [List.length_set]; omega)] at e
        cases e
    · rw [List.getElem?_set_ne hj] at e
      have q := k.sl j s e
      cases s with
      | un => trivial
      | pn v => exact q
      | bd b => obtain ⟨v, a, b⟩ := q; exact ⟨v, a, b.mono l⟩
      | cm c =>
        obtain ⟨v, a, b⟩ := q
        exact ⟨v, a, b.mv l fun x hx => ⟨hk x (np j x ⟨c, v, e, a, hx⟩), upd_ne (np j x ⟨c, v, e, a, hx⟩)⟩⟩
      | fz d => obtain ⟨v, a, b⟩ := q; exact ⟨v, a, b.mono l⟩
      | ow d =>
        obtain ⟨v, a, b1, b2, b3⟩ := q
        have ne : v ≠ p := fun z => by
          subst z
          exact k.inj i j d0 d v hj e0 e h0 a
        refine ⟨v, a, b1, by rw [upd_ne ne]; exact b2, ?_⟩
        have b4 : OwnD K B H' v d := b3.at (hk v ne)
        cases d with
        | list ds => obtain ⟨xs, a, b⟩ := b4; exact ⟨xs, a, b.mono l⟩
        | dict ds => obtain ⟨xs, a, b⟩ := b4; exact ⟨xs, a, b.mono l⟩
        | none => exact b4.elim
        | bool b => exact b4.elim
        | int b => exact b4.elim
        | str b => exact b4.elim
        | tuple b => exact b4.elim
  · have nj : i ≠ j := fun z => by
      subst z
      by_cases hl : i < r.length
      · rw [List.getElem?_set_self hl] at e1
        cases e1
      · rw [List.getElem?_eq_none (by rw [List.length_set]; omega)] at e1
        cases e1
    have nl : i ≠ m := fun z => by
      subst z
      by_cases hl : i < r.length
      · rw [List.getElem?_set_self hl] at e2
        cases e2
      · rw [List.getElem?_eq_none (by rw [List.length_set]; omega)] at e2
        cases e2
    rw [List.getElem?_set_ne nj] at e1
    rw [List.getElem?_set_ne nl] at e2
    exact k.inj j m d1 d2 q ne e1 e2 h1 h2
end

section
variable (cls : String → Value) (X : Cx) (W : WX)
structure DS (st : Stmt) (g : Env → SR) : Prop where
  run : ∃ t, PS X st t ∧ ∀ (F B H : Hp) (σ : L2.St) (r : Env) (D : Ends), Ok X.K F B H σ r → Ps X.K cls F B D W (g r) → t D σ H
structure DSs (sts : List Stmt) (g : Env → SR) : Prop where
  run : ∃ t, PSs X sts t ∧ ∀ (F B H : Hp) (σ : L2.St) (r : Env) (D : Ends), Ok X.K F B H σ r → Ps X.K cls F B D W (g r) → t D σ H
structure DG (b : Bool) (tg : Expr) (g : Da → Env → Option Env) : Prop where
  run : ∃ t, PG X tg t ∧ ∀ (F B H : Hp) (σ : L2.St) (r r' : Env) (v : V) (d : Da) (Q : L2.St → Hp → Prop), Ok X.K F B H σ r → RepB b X.K B v d → g d r = some r' → (∀ σ', Ok X.K F B H σ' r' → Q σ' H) → t v σ H Q
structure DGs (ts : List Expr) (g : List Da → Env → Option Env) : Prop where
  run : ∃ t, PGs X ts t ∧ ∀ (F B H : Hp) (σ : L2.St) (r r' : Env) (vs : List V) (ds : List Da) (Q : L2.St → Hp → Prop), Ok X.K F B H σ r → RepAll X.K B vs ds → g ds r = some r' → (∀ σ', Ok X.K F B H σ' r' → Q σ' H) → t vs σ H Q
end

section
variable {cls : String → Value} {X : Cx} {W : WX}
def sNil : Env → SR := fun r => .nx r
def sSeq (f g : Env → SR) : Env → SR := fun r => match f r with
  | .nx r' => g r'
  | x => x
theorem dss_nil : DSs cls X W [] sNil := ⟨_, pss_nil, fun F B H σ r D k p => p B H σ (Gr.refl _ _) k⟩
theorem seq_post {K : PySem.W.Frag} {F B : Hp} {D : Ends} {f g : Env → SR} {r : Env} {tu : TS} (p : Ps K cls F B D W (sSeq f g r)) (h : ∀ (F B H : Hp) (σ : L2.St) (r : Env) (D : Ends), Ok K F B H σ r → Ps K cls F B D W (g r) → tu D σ H) :
    Ps K cls F B { D with nx := tu D } W (f r) := by
  unfold sSeq at p
  cases q : f r with
  | nx r' =>
    rw [q] at p
    exact fun B' H' σ' gr k => h F B' H' σ' r' D k (Ps.gr p gr)
  | rt d => rw [q] at p; exact p
  | bk d => rw [q] at p; exact p
  | ct d => rw [q] at p; exact p
  | er c d => rw [q] at p; exact p
  | no => rw [q] at p; exact p
theorem dss_cons {st : Stmt} {rest : List Stmt} {f g : Env → SR} (h1 : DS cls X W st f) (h2 : DSs cls X W rest g) : DSs cls X W (st :: rest) (sSeq f g) := by
  obtain ⟨t, pt, h1⟩ := h1.run
  obtain ⟨u, pu, h2⟩ := h2.run
  exact ⟨_, pss_cons pt pu, fun F B H σ r D k p => h1 F B H σ r _ k (seq_post p h2)⟩
theorem dss_one {st : Stmt} {f : Env → SR} (h1 : DS cls X W st f) : DSs cls X W [st] f := by
  obtain ⟨t, pt, h1⟩ := h1.run
  exact ⟨_, pss_one pt, h1⟩
def sExp (f : Env → R Da) : Env → SR := fun r => bS r (f r) fun _ => .nx r
theorem ds_expr {e : Expr} {f : Env → R Da} {pos : Pos} (he : DE cls X W e f) (hs : swapsWith e none pos.line X.env = pure false := by rfl) : DS cls X W (.Expr e pos) (sExp f) := by
  obtain ⟨t, pt, h⟩ := he.run
  exact ⟨_, ps_expr pt hs, fun F B H σ r D k p => h F B H σ r _ k ((Ps.bS p k).imp fun d B' H' s q v hv => q B' H' σ (Gr.refl _ _) (k.stp s))⟩
def sRet (f : Env → R Da) : Env → SR := fun r => bS r (f r) .rt
theorem ds_ret {e : Expr} {f : Env → R Da} {pos : Pos} (he : DE cls X W e f) : DS cls X W (.Return (some e) pos) (sRet f) := by
  obtain ⟨t, pt, h⟩ := he.run
  exact ⟨_, ps_ret pt, fun F B H σ r D k p => h F B H σ r _ k ((Ps.bS p k).imp fun d B' H' s q v hv => q B' H' v (Gr.refl _ _) s.bh (k.fh.trans s.hh) hv)⟩
def sIf (c : Env → R Bool) (f g : Env → SR) : Env → SR := fun r => bS r (c r) fun b => if b then f r else g r
theorem ds_if {c : Expr} {a b : List Stmt} {f : Env → R Bool} {g h : Env → SR} {pos : Pos} (hc : DT cls X W c f) (ha : DSs cls X W a g) (hb : DSs cls X W b h) : DS cls X W (.If c a b pos) (sIf f g h) := by
  obtain ⟨tc, pc, hc⟩ := hc.run
  obtain ⟨ta, pa, ha⟩ := ha.run
  obtain ⟨tb, pb, hb⟩ := hb.run
  refine ⟨_, ps_if pc pa pb, fun F B H σ r D k p => hc F B H σ r _ k ((Ps.bS p k).imp fun b B' H' s q => ?_)⟩
  cases b with
  | true => exact ha F B' H' σ r D (k.stp s) q
  | false => exact hb F B' H' σ r D (k.stp s) q

def sSet (i : Nat) (f : Env → R Da) : Env → SR := fun r => bS r (f r) fun d => .nx (r.set i (.fz d))
def sOwn (i : Nat) (f : Env → R Da) : Env → SR := fun r => bS r (f r) fun d => .nx (r.set i (.ow d))
theorem ds_set (i : Nat) {x : Str} {e : Expr} {f : Env → R Da} {pos pos' : Pos} (hN : X.N.Nodup) (he : DE cls X W e f) (hi : X.N[i]? = some x := by rfl) (hx : Loc X.env.scope x := by first | exact Or.inl rfl | exact Or.inr rfl)
    (hs : swapsWith e (some (.Name x pos')) pos.line X.env = pure false := by rfl) (hf : X.fn x = true ∨ X.env.scope.names.lookup x = some .local := by first | exact .inl rfl | exact .inr rfl) : DS cls X W (.Assign [.Name x pos'] e pos) (sSet i f) := by
  obtain ⟨t, pt, h⟩ := he.run
  exact ⟨_, ps_set hN hi hx pt hs hf, fun F B H σ r D k p => h F B H σ r _ k ((Ps.bS p k).imp fun d B' H' s q v hv => q B' H' _ (Gr.refl _ _) ((k.stp s).setF hv))⟩
theorem ds_own (i : Nat) {x : Str} {e : Expr} {f : Env → R Da} {pos pos' : Pos} (hN : X.N.Nodup) (he : DF cls X W e f) (hi : X.N[i]? = some x := by rfl) (hx : Loc X.env.scope x := by first | exact Or.inl rfl | exact Or.inr rfl)
    (hs : swapsWith e (some (.Name x pos')) pos.line X.env = pure false := by rfl) (hf : X.fn x = true ∨ X.env.scope.names.lookup x = some .local := by first | exact .inl rfl | exact .inr rfl) : DS cls X W (.Assign [.Name x pos'] e pos) (sOwn i f) := by
  obtain ⟨t, pt, h⟩ := he.run
  exact ⟨_, ps_set hN hi hx pt hs hf, fun F B H σ r D k p => h F B H σ r _ k ((Ps.bS p k).imp fun d B' H' s q v n b o => q B' H' _ (Gr.refl _ _) (k.own s n b o))⟩
def sAug (i : Nat) (g : Int → Int → Int) (f : Env → R Da) : Env → SR := fun r => match r[i]? with
  | some (.fz (.int a)) => bS r (f r) fun d => match d with
    | .int b => .nx (r.set i (.fz (.int (g a b))))
    | _ => .no
  | _ => .no
def gNm (i : Nat) : Da → Env → Option Env := fun d r => some (r.set i (.fz d))
def gsNil : List Da → Env → Option Env := fun ds r => match ds with
  | [] => some r
  | _ => none
def gsCons (g : Da → Env → Option Env) (gs : List Da → Env → Option Env) : List Da → Env → Option Env := fun ds r => match ds with
  | d :: ds => (g d r).bind (gs ds)
  | [] => none
def gTp (gs : List Da → Env → Option Env) (n : Nat) : Da → Env → Option Env := fun d r => match d with
  | .tuple ds => if ds.length = n then gs ds r else none
  | _ => none
theorem dg_name (i : Nat) {x : Str} {pos : Pos} (hN : X.N.Nodup) (hi : X.N[i]? = some x := by rfl) (hx : Loc X.env.scope x := by first | exact Or.inl rfl | exact Or.inr rfl)
    (hf : X.fn x = true ∨ X.env.scope.names.lookup x = some .local := by first | exact .inl rfl | exact .inr rfl) : DG X true (.Name x pos) (gNm i) := by
  refine ⟨_, pg_name hN hi hx hf, fun F B H σ r r' v d Q k hv e q => ?_⟩
  cases e
  exact q _ (k.setF hv)
theorem dgs_nil : DGs X [] gsNil := by
  refine ⟨_, pgs_nil, fun F B H σ r r' vs ds Q k hv e q => ?_⟩
  cases hv with
  | nil =>
    cases e
    exact ⟨rfl, q σ k⟩
  | cons h h' => cases e
theorem dgs_cons {e : Expr} {es : List Expr} {g : Da → Env → Option Env} {gs : List Da → Env → Option Env} (h1 : DG X true e g) (h2 : DGs X es gs) (hs : (assignEach (e :: es) X.env).map (·.2) = assign e X.env :: (assignEach es X.env).map (·.2) := by rfl) : DGs X (e :: es) (gsCons g gs) := by
  obtain ⟨t, pt, h1⟩ := h1.run
  obtain ⟨u, pu, h2⟩ := h2.run
  refine ⟨_, pgs_cons pt pu hs, fun F B H σ r r' vs ds Q k hv e q => ?_⟩
  cases hv with
  | nil => cases e
  | cons h h' =>
    rename_i v vs d ds
    have e : (g d r).bind (gs ds) = some r' := e
    cases hg : g d r with
    | none => rw [hg] at e; cases e
    | some r1 =>
      rw [hg] at e
      exact ⟨v, vs, rfl, h1 F B H σ r r1 v d _ k h hg fun σ1 k1 => h2 F B H σ1 r1 r' vs ds Q k1 h' e q⟩
theorem dg_tup {b : Bool} {es : List Expr} {k0 : Nat} {gs : List Da → Env → Option Env} {n : Nat} {pos : Pos} (h : DGs X es gs) (hc : X.calm = true := by rfl) (hn : (assignEach es X.env).length = n := by rfl) (hst : (assignEach es X.env).findIdx? (·.1) = none := by rfl) : DG X b (.Tuple es k0 pos) (gTp gs n) := by
  obtain ⟨u, pu, h2⟩ := h.run
  refine ⟨_, pg_tup (k := k0) hc pu hn hst, fun F B H σ r r' v d Q k hv e q => ?_⟩
  cases d with
  | tuple ds =>
    have e : (if ds.length = n then gs ds r else none) = some r' := e
    by_cases hl : ds.length = n
    · rw [if_pos hl] at e
      obtain ⟨a, xs, rfl, hs, hr⟩ := hv.w
      exact ⟨_, _, rfl, k.bh.st hs, by rw [hr.length]; exact hl, h2 F B H σ r r' _ ds Q k hr e q⟩
    · rw [if_neg hl] at e
      cases e
  | none => cases e
  | bool b => cases e
  | int b => cases e
  | str b => cases e
  | list b => cases e
  | dict b => cases e
def sAsg (f : Env → R Da) (g : Da → Env → Option Env) : Env → SR := fun r => bS r (f r) fun d => match g d r with
  | some r' => .nx r'
  | none => .no
end
end Mi

namespace Mi
open PySem PySem.Spec PyProof.Rows L2

structure Yl (b : Bool) (K : PySem.W.Frag) (J : It) (B0 : Hp) (ds : List Da) : Prop where
  go : ∀ i H, i < ds.length → Le B0 H → J.go i H
  st : ∀ H, Le B0 H → J.stop ds.length H
  yd : ∀ i H x H' d B, ds[i]? = some d → Le B0 B → Le B H → J.yld i H x H' → ∃ B', Stp B H B' H' ∧ RepB b K B' x d
abbrev WfI (b : Bool) (K : PySem.W.Frag) (Rr : It → Hp → Prop) : List Da → Hp → Hp → Prop := fun ds B' H' => ∀ J, Yl b K J B' ds → Rr J H'
structure DI (b : Bool) (cls : String → Value) (X : Cx) (W : WX) (tg iter : Expr) (f : Env → R (List Da)) : Prop where
  run : ∃ wi, PI X tg iter wi ∧ ∀ (F B H : Hp) (σ : L2.St) (r : Env) (Q : It → Hp → Prop), Ok X.K F B H σ r → Pw cls B H σ W (WfI b X.K Q) (f r) → wi σ H Q

def nextS (x : SR) (k : Env → SR) : SR := match x with
  | .nx r => k r
  | .ct r => k r
  | .bk r => .nx r
  | .rt d => .rt d
  | .er c r => .er c r
  | .no => .no
def loopF (g : Da → Env → Option Env) (body : Env → SR) : List Da → Env → SR
  | [], r => .nx r
  | d :: ds, r => match g d r with
    | none => .no
    | some r1 => nextS (body r1) (loopF g body ds)
def sFor (fi : Env → R (List Da)) (g : Da → Env → Option Env) (body : Env → SR) : Env → SR := fun r => bS r (fi r) fun ds => loopF g body ds r
section
variable {cls : String → Value} {X : Cx} {W : WX}
theorem Ps.next {K : PySem.W.Frag} {F B B0 : Hp} {D : Ends} {x : SR} {kk : Env → SR} {N : L2.St → Hp → Prop} (p : Ps K cls F B D W (nextS x kk)) (h : ∀ B' H' σ' r, Gr F B B' → Ok K F B' H' σ' r → Ps K cls F B' D W (kk r) → N σ' H') : Ps K cls F B { D with nx := N, ct := N, bk := D.nx } W x := by
  cases x with
  | nx r => exact fun B' H' σ' g k => h B' H' σ' r g k (Ps.gr (show Ps K cls F B D W (kk r) from p) g)
  | ct r => exact fun B' H' σ' g k => h B' H' σ' r g k (Ps.gr (show Ps K cls F B D W (kk r) from p) g)
  | bk r => exact p
  | rt d => exact p
  | er c r => exact p
  | no => exact p
theorem for_run {b : Bool} {J : It} {B0 : Hp} {ds : List Da} {g : Da → Env → Option Env} {body : Env → SR} {tg : TG} {tb : TS} {F : Hp} {D : Ends}
    (hg : ∀ (F B H : Hp) (σ : L2.St) (r r' : Env) (v : V) (d : Da) (Q : L2.St → Hp → Prop), Ok X.K F B H σ r → RepB b X.K B v d → g d r = some r' → (∀ σ', Ok X.K F B H σ' r' → Q σ' H) → tg v σ H Q)
    (hb : ∀ (F B H : Hp) (σ : L2.St) (r : Env) (D : Ends), Ok X.K F B H σ r → Ps X.K cls F B D W (body r) → tb D σ H)
    (y : Yl b X.K J B0 ds) {B H : Hp} {σ : L2.St} {r : Env} (b0 : Le B0 B) (k : Ok X.K F B H σ r) (p : Ps X.K cls F B D W (loopF g body ds r)) :
    ∃ M : Nat → Nat → L2.St → Hp → Prop, (∃ m, M 0 m σ H) ∧ ∀ i m σ H, M i m σ H →
      (J.stop i H ∧ D.nx σ H) ∨ (J.go i H ∧ ∃ N : L2.St → Hp → Prop, (∀ σ' H', N σ' H' → ∃ m', m' < m ∧ M (i + 1) m' σ' H') ∧ ∀ x H', J.yld i H x H' → tg x σ H' fun σ2 H2 => tb { D with nx := N, ct := N, bk := D.nx } σ2 H2) := by
  refine ⟨fun i m σ H => m = ds.length - i ∧ i ≤ ds.length ∧ ∃ B r, Le B0 B ∧ Ok X.K F B H σ r ∧ Ps X.K cls F B D W (loopF g body (ds.drop i) r), ⟨ds.length, by simp, Nat.zero_le _, B, r, b0, k, p⟩, ?_⟩
  rintro i m σ H ⟨rfl, hi, B, r, b0, k, p⟩
  by_cases hlt : i < ds.length
  · refine .inr ⟨y.go i H hlt (b0.trans k.bh), fun σ' H' => ∃ B r, Le B0 B ∧ Ok X.K F B H' σ' r ∧ Ps X.K cls F B D W (loopF g body (ds.drop (i + 1)) r), fun σ' H' ⟨B', r', b', k', p'⟩ => ⟨ds.length - (i + 1), by omega, rfl, hlt, B', r', b', k', p'⟩, fun x H' hy => ?_⟩
    have e : ds[i]? = some ds[i] := List.getElem?_eq_getElem hlt
    obtain ⟨B', s, hr⟩ := y.yd i H x H' _ B e b0 k.bh hy
    rw [List.drop_eq_getElem_cons hlt] at p
    unfold loopF at p
    cases eg : g ds[i] r with
    | none => rw [eg] at p; exact p.elim
    | some r1 =>
      rw [eg] at p
      have gr := s.grF k.fh
      refine hg F B' H' σ r r1 x _ _ (k.stp s) hr eg fun σ' k' => hb F B' H' σ' r1 _ k' ?_
      exact Ps.next (B0 := B) (Ps.gr p gr) fun B2 H2 σ2 r2 g2 k2 p2 => ⟨B2, r2, (b0.trans gr.1).trans g2.1, k2, p2⟩
  · have e : i = ds.length := by omega
    subst e
    rw [List.drop_length] at p
    exact .inl ⟨y.st H (b0.trans k.bh), p B H σ (Gr.refl _ _) k⟩
theorem ds_for {b : Bool} {tg iter : Expr} {body : List Stmt} {fi : Env → R (List Da)} {g : Da → Env → Option Env} {f : Env → SR} {pos : Pos} (hp : PassesOwn (model X.prog X.w) X.A X.env X.xe) (hi : DI b cls X W tg iter fi) (hg : DG X b tg g) (hb : DSs cls X W body f)
    (hc : X.calm = true := by rfl) (hs : ∀ x, foldedSetIterable iter X.env x = pure x := by intro _; rfl) : DS cls X W (.For tg iter body [] pos) (sFor fi g f) := by
  obtain ⟨ti, pi, hi⟩ := hi.run
  obtain ⟨u, pu, hg⟩ := hg.run
  obtain ⟨t, pt, hb⟩ := hb.run
  refine ⟨_, ps_for hp hc pi pu pt hs, fun F B H σ r D k p => hi F B H σ r _ k ((Ps.bS p k).imp fun ds B' H' s q J y => ?_)⟩
  exact for_run hg hb y (Le.refl _) (k.stp s) q

def loopW (c : Env → R Bool) (body : Env → SR) : Nat → Env → SR
  | 0, _ => .no
  | n + 1, r => bS r (c r) fun b => if b then nextS (body r) (loopW c body n) else .nx r
def wipeE (r : Env) : List Nat → Env
  | [] => r
  | i :: is => (wipeE r is).set i .un
def lcF (g : Da → Env → Option Env) (ft : Env → R Bool) (fe : Env → R Da) (r : Env) : List Da → R (List Da)
  | [] => .ok []
  | d :: ds => match g d r with
    | none => .no
    | some r1 => (ft r1).bind fun b => if b then (fe r1).bind fun y => (lcF g ft fe r ds).bind fun ys => .ok (y :: ys) else lcF g ft fe r ds
def eLc (vs : List Nat) (fi : Env → R (List Da)) (g : Da → Env → Option Env) (ft : Env → R Bool) (fe : Env → R Da) : Env → R Da := fun r =>
  (fi r).bind fun ds => if ds.length ≤ 100000 then (lcF g ft fe (wipeE r vs) ds).calm.bind fun ys => .ok (.list ys) else .no
def ftYes : Env → R Bool := fun _ => .ok true
structure DTs (cls : String → Value) (X : Cx) (W : WX) (es : List Expr) (f : Env → R Bool) : Prop where
  run : ∃ t, PTs X es t ∧ ∀ (F B H : Hp) (σ : L2.St) (r : Env) (Q : Bool → Hp → Prop), Ok X.K F B H σ r → Pw cls B H σ W (WfT Q) (f r) → t σ H Q
theorem dts_nil : DTs cls X W [] ftYes := ⟨_, pts_nil, fun F B H σ r Q k p => p B H (Stp.refl k.bh)⟩
theorem dts_one {c : Expr} {f : Env → R Bool} (h : DT cls X W c f) : DTs cls X W [c] f := by
  obtain ⟨t, pt, h⟩ := h.run
  exact ⟨_, pts_one pt, h⟩
theorem wipeE_length (r : Env) : ∀ vs : List Nat, (wipeE r vs).length = r.length
  | [] => rfl
  | i :: is => by
    unfold wipeE
    rw [List.length_set]
    exact wipeE_length r is
theorem wipeE_get (r : Env) (i : Nat) (s : Sl) : ∀ vs : List Nat, (wipeE r vs)[i]? = some s → s = .un ∨ (r[i]? = some s ∧ i ∉ vs)
  | [], e => .inr ⟨e, by simp⟩
  | j :: is, e => by
    have e : ((wipeE r is).set j .un)[i]? = some s := e
    by_cases h : j = i
    · subst h
      by_cases hl : j < (wipeE r is).length
      · rw [List.getElem?_set_self hl] at e
        cases e
        exact .inl rfl
      · rw [List.getElem?_eq_none (by rw [List.length_set]; omega)] at e
        cases e
    · rw [List.getElem?_set_ne h] at e
      rcases wipeE_get r i s is e with q | ⟨q1, q2⟩
      · exact .inl q
      · refine .inr ⟨q1, fun z => ?_⟩
        rcases List.mem_cons.mp z with z | z
        · exact h z.symm
        · exact q2 z
theorem wipe_keep (σ : L2.St) (i : Nat) : ∀ vs : List Nat, i ∉ vs → (wipe σ vs)[i]? = σ[i]?
  | [], _ => rfl
  | j :: is, h => by
    have h1 : j ≠ i := fun z => h (by rw [z]; exact List.mem_cons_self)
    have h2 : i ∉ is := fun z => h (List.mem_cons_of_mem _ z)
    show ((wipe σ is).set j none)[i]? = σ[i]?
    rw [List.getElem?_set_ne h1]
    exact wipe_keep σ i is h2
theorem Ok.wipe {K : PySem.W.Frag} {F B H : Hp} {σ : L2.St} {r : Env} (k : Ok K F B H σ r) (vs : List Nat) : Ok K F B H (L2.wipe σ vs) (wipeE r vs) := by
  refine ⟨k.bh, k.fh, by rw [wipe_length, wipeE_length]; exact k.len, fun i s e => ?_, fun i j d e p ne h1 h2 h3 h4 => ?_, k.tb, k.ci.mv (fun i a f => f.to (fun c e => ?_) (fun c e => ?_) fun _ _ => rfl) fun j a o => .inl ?_⟩
  · rcases wipeE_get r i s vs e with q | ⟨q1, q2⟩
    · subst q
      trivial
    · have h := k.sl i s q1
      cases s with
      | un => trivial
      | pn v =>
        have h : σ[i]? = some (some v) := h
        show (L2.wipe σ vs)[i]? = _
        rw [wipe_keep σ i vs q2]
        exact h
      | bd b => obtain ⟨v, a, b⟩ := h; exact ⟨v, by rw [wipe_keep σ i vs q2]; exact a, b⟩
      | cm b => obtain ⟨v, a, b⟩ := h; exact ⟨v, by rw [wipe_keep σ i vs q2]; exact a, b⟩
      | fz d => obtain ⟨v, a, b⟩ := h; exact ⟨v, by rw [wipe_keep σ i vs q2]; exact a, b⟩
      | ow d => obtain ⟨v, a, b⟩ := h; exact ⟨v, by rw [wipe_keep σ i vs q2]; exact a, b⟩
  · rcases wipeE_get r i _ vs h1 with q | ⟨q1, q2⟩
    · cases q
    · rcases wipeE_get r j _ vs h2 with q | ⟨q3, q4⟩
      · cases q
      · rw [wipe_keep σ i vs q2] at h3
        rw [wipe_keep σ j vs q4] at h4
        exact k.inj i j d e p ne q1 q3 h3 h4
  · rcases wipeE_get r i _ vs e with q | ⟨q1, q2⟩
    · cases q
    · exact q1
  · rcases wipeE_get r i _ vs e with q | ⟨q1, q2⟩
    · cases q
    · exact wipe_keep σ i vs q2
  · obtain ⟨d, e1, e2⟩ := o
    rcases wipeE_get r j _ vs e1 with q | ⟨q1, q2⟩
    · cases q
    · rw [wipe_keep σ j vs q2] at e2
      exact ⟨d, q1, e2⟩
def cE (K : PySem.W.Frag) (cls : String → Value) (W : WX) (f : Env → R Da) : TE := fun σ H Q => ∃ F B r, Ok K F B H σ r ∧ Pw cls B H σ W (WfE K Q) (f r)
def cTs (K : PySem.W.Frag) (cls : String → Value) (W : WX) (f : Env → R Bool) : TT := fun σ H Q => ∃ F B r, Ok K F B H σ r ∧ Pw cls B H σ W (WfT Q) (f r)
theorem DE.pe {e : Expr} {f : Env → R Da} (h : DE cls X W e f) : PE X e (cE X.K cls W f) := by
  obtain ⟨t, pt, h⟩ := h.run
  exact ⟨fun pins s σ H Q I ⟨F, B, r, k, p⟩ => pt.run pins s σ H Q I (h F B H σ r Q k p)⟩
theorem DTs.pt {es : List Expr} {f : Env → R Bool} (h : DTs cls X W es f) : PTs X es (cTs X.K cls W f) := by
  obtain ⟨t, pt, h⟩ := h.run
  exact ⟨fun pins s σ H Q I ⟨F, B, r, k, p⟩ => pt.run pins s σ H Q I (h F B H σ r Q k p)⟩
def cG (b : Bool) (K : PySem.W.Frag) (vs : List Nat) (g : Da → Env → Option Env) : TG := fun v σ H Q => ∃ F B r r' d, Ok K F B H σ r ∧ RepB b K B v d ∧ g d r = some r' ∧ ∀ σ', Ok K F B H σ' r' → L2.wipe σ' vs = L2.wipe σ vs → Q σ' H
structure DGw (b : Bool) (X : Cx) (vs : List Nat) (tg : Expr) (g : Da → Env → Option Env) : Prop where
  run : ∃ t, PG X tg t ∧ ∀ (F B H : Hp) (σ : L2.St) (r r' : Env) (v : V) (d : Da) (Q : L2.St → Hp → Prop), Ok X.K F B H σ r → RepB b X.K B v d → g d r = some r' → (∀ σ', Ok X.K F B H σ' r' → L2.wipe σ' vs = L2.wipe σ vs → Q σ' H) → t v σ H Q
structure DGsw (X : Cx) (vs : List Nat) (ts : List Expr) (g : List Da → Env → Option Env) : Prop where
  run : ∃ t, PGs X ts t ∧ ∀ (F B H : Hp) (σ : L2.St) (r r' : Env) (us : List V) (ds : List Da) (Q : L2.St → Hp → Prop), Ok X.K F B H σ r → RepAll X.K B us ds → g ds r = some r' → (∀ σ', Ok X.K F B H σ' r' → L2.wipe σ' vs = L2.wipe σ vs → Q σ' H) → t us σ H Q
theorem DGw.pg {b : Bool} {vs : List Nat} {tg : Expr} {g : Da → Env → Option Env} (h : DGw b X vs tg g) : PG X tg (cG b X.K vs g) := by
  obtain ⟨t, pt, h⟩ := h.run
  exact ⟨fun pins s σ H v u Q I rv ⟨F, B, r, r', d, k, hd, e, q⟩ => pt.run pins s σ H v u Q I rv (h F B H σ r r' v d Q k hd e q)⟩
theorem wipe_set {σ : L2.St} {i : Nat} {v : Option V} : ∀ {vs : List Nat}, i ∈ vs → L2.wipe (σ.set i v) vs = L2.wipe σ vs
  | j :: vs, h => by
    show (L2.wipe (σ.set i v) vs).set j none = (L2.wipe σ vs).set j none
    by_cases hi : i ∈ vs
    · rw [wipe_set hi]
    · rcases List.mem_cons.mp h with rfl | h
      · refine List.ext_getElem? fun l => ?_
        by_cases hl : i = l
        · subst hl
          by_cases hs : i < σ.length
          · rw [List.getElem?_set_self (by rw [wipe_length, List.length_set]; exact hs), List.getElem?_set_self (by rw [wipe_length]; exact hs)]
          · rw [List.getElem?_eq_none (by rw [List.length_set, wipe_length, List.length_set]; omega), List.getElem?_eq_none (by rw [List.length_set, wipe_length]; omega)]
        · rw [List.getElem?_set_ne hl, List.getElem?_set_ne hl]
          by_cases hlv : l ∈ vs
          · have z : ∀ (s t : L2.St), s.length = t.length → ∀ ws : List Nat, l ∈ ws → (L2.wipe s ws)[l]? = (L2.wipe t ws)[l]? := by
              intro s t hl ws
              induction ws with
              | nil => intro q; cases q
              | cons j ws ih =>
                intro q
                show ((L2.wipe s ws).set j none)[l]? = ((L2.wipe t ws).set j none)[l]?
                by_cases hj : j = l
                · subst hj
                  by_cases hs : j < s.length
                  · rw [List.getElem?_set_self (by rw [wipe_length]; exact hs), List.getElem?_set_self (by rw [wipe_length]; omega)]
                  · rw [List.getElem?_eq_none (by rw [List.length_set, wipe_length]; omega), List.getElem?_eq_none (by rw [List.length_set, wipe_length]; omega)]
                · rw [List.getElem?_set_ne hj, List.getElem?_set_ne hj]
                  rcases List.mem_cons.mp q with e | q
                  · exact absurd e.symm hj
                  · exact ih q
            exact z _ _ (by rw [List.length_set]) vs hlv
          · rw [wipe_keep _ l vs hlv, wipe_keep _ l vs hlv, List.getElem?_set_ne hl]
      · exact absurd h hi
theorem dgw_name (i : Nat) {vs : List Nat} {x : Str} {pos : Pos} (hN : X.N.Nodup) (hv : i ∈ vs := by decide) (hi : X.N[i]? = some x := by rfl) (hx : Loc X.env.scope x := by first | exact Or.inl rfl | exact Or.inr rfl)
    (hf : X.fn x = true ∨ X.env.scope.names.lookup x = some .local := by first | exact .inl rfl | exact .inr rfl) : DGw true X vs (.Name x pos) (gNm i) := by
  refine ⟨_, pg_name hN hi hx hf, fun F B H σ r r' v d Q k hd e q => ?_⟩
  cases e
  exact q _ (k.setF hd) (wipe_set hv)
theorem dgsw_nil {vs : List Nat} : DGsw X vs [] gsNil := by
  refine ⟨_, pgs_nil, fun F B H σ r r' us ds Q k hd e q => ?_⟩
  cases hd with
  | nil =>
    cases e
    exact ⟨rfl, q σ k rfl⟩
  | cons h h' => cases e
theorem dgsw_cons {vs : List Nat} {e : Expr} {es : List Expr} {g : Da → Env → Option Env} {gs : List Da → Env → Option Env} (h1 : DGw true X vs e g) (h2 : DGsw X vs es gs) (hs : (assignEach (e :: es) X.env).map (·.2) = assign e X.env :: (assignEach es X.env).map (·.2) := by rfl) : DGsw X vs (e :: es) (gsCons g gs) := by
  obtain ⟨t, pt, h1⟩ := h1.run
  obtain ⟨u, pu, h2⟩ := h2.run
  refine ⟨_, pgs_cons pt pu hs, fun F B H σ r r' us ds Q k hv e q => ?_⟩
  cases hv with
  | nil => cases e
  | cons h h' =>
    rename_i v us d ds
    have e : (g d r).bind (gs ds) = some r' := e
    cases hg : g d r with
    | none => rw [hg] at e; cases e
    | some r1 =>
      rw [hg] at e
      exact ⟨v, us, rfl, h1 F B H σ r r1 v d _ k h hg fun σ1 k1 w1 => h2 F B H σ1 r1 r' us ds Q k1 h' e fun σ2 k2 w2 => q σ2 k2 (w2.trans w1)⟩
theorem dgw_tup {b : Bool} {vs : List Nat} {es : List Expr} {k0 : Nat} {gs : List Da → Env → Option Env} {n : Nat} {pos : Pos} (h : DGsw X vs es gs) (hc : X.calm = true := by rfl) (hn : (assignEach es X.env).length = n := by rfl) (hst : (assignEach es X.env).findIdx? (·.1) = none := by rfl) : DGw b X vs (.Tuple es k0 pos) (gTp gs n) := by
  obtain ⟨u, pu, h2⟩ := h.run
  refine ⟨_, pg_tup (k := k0) hc pu hn hst, fun F B H σ r r' v d Q k hv e q => ?_⟩
  cases d with
  | tuple ds =>
    have e : (if ds.length = n then gs ds r else none) = some r' := e
    by_cases hl : ds.length = n
    · rw [if_pos hl] at e
      obtain ⟨a, xs, rfl, hs, hr⟩ := hv.w
      exact ⟨_, _, rfl, k.bh.st hs, by rw [hr.length]; exact hl, h2 F B H σ r r' _ ds Q k hr e q⟩
    · rw [if_neg hl] at e
      cases e
  | none => cases e
  | bool b => cases e
  | int b => cases e
  | str b => cases e
  | list b => cases e
  | dict b => cases e
theorem lc_run {bb : Bool} {J : It} {B0 : Hp} {ds ys : List Da} {vs : List Nat} {g : Da → Env → Option Env} {ft : Env → R Bool} {fe : Env → R Da} {tg : TG} {tt : TT} {te : TE} {F : Hp} {σ : L2.St} {r : Env} {K : PySem.W.Frag}
    (hg : ∀ (F B H : Hp) (σ : L2.St) (r r' : Env) (v : V) (d : Da) (Q : L2.St → Hp → Prop), Ok K F B H σ r → RepB bb K B v d → g d r = some r' → (∀ σ', Ok K F B H σ' r' → L2.wipe σ' vs = L2.wipe σ vs → Q σ' H) → tg v σ H Q)
    (ht : ∀ (F B H : Hp) (σ : L2.St) (r : Env) (Q : Bool → Hp → Prop), Ok K F B H σ r → Pw cls B H σ W (WfT Q) (ft r) → tt σ H Q)
    (he : ∀ (F B H : Hp) (σ : L2.St) (r : Env) (Q : VK), Ok K F B H σ r → Pw cls B H σ W (WfE K Q) (fe r) → te σ H Q)
    (y : Yl bb K J B0 ds) {B H1 : Hp} (b0 : Le B0 B) (k : Ok K F B H1 σ r) (hz : ds.length ≤ 100000) (hw : L2.wipe (L2.wipe σ vs) vs = L2.wipe σ vs)
    (e : lcF g ft fe (wipeE r vs) ds = .ok ys) {Q : VK} {Dl : Addr} (hD : H1 Dl = none) (q : ∀ B' H', Stp B H1 B' H' → B' Dl = none → OwnD K B' H' Dl (.list ys) → Q (.ref Dl) H') :
    ∃ M : Nat → Nat → Hp → Prop, (∃ m, M 0 m (upd H1 Dl (.lst []))) ∧ ∀ i m H, M i m H →
  (J.stop i H ∧ Q (.ref Dl) H) ∨ (J.go i H ∧ ∃ Nx : Hp → Prop, (∀ H', Nx H' → ∃ m', m' < m ∧ M (i + 1) m' H') ∧ ∀ x H', J.yld i H x H' → tg x (L2.wipe σ vs) H' fun σ2 H2 => L2.wipe σ2 vs = L2.wipe σ vs ∧ tt σ2 H2 fun b H3 =>
    if b = true then te σ2 H3 fun y H4 => ∃ acc, H4 Dl = some (.lst acc) ∧ acc.length < sizeLine ∧ Nx (upd H4 Dl (.lst (acc ++ [y]))) else Nx H3) := by
  -- what holds at turn i: the list so far, the rest of the answer
  let Iv : Nat → Hp → Prop := fun i H => ∃ B' acc as zs, Stp B H1 B' H ∧ B' Dl = none ∧ H Dl = some (.lst acc) ∧ RepAll K B' acc as ∧ as.length ≤ i ∧ lcF g ft fe (wipeE r vs) (ds.drop i) = .ok zs ∧ ys = as ++ zs
  refine ⟨fun i m H => m = ds.length - i ∧ i ≤ ds.length ∧ Iv i H, ⟨ds.length, by simp, Nat.zero_le _, B, [], [], ys, Stp.drop k.bh hD, k.bh.back hD, upd_same, .nil, Nat.le_refl _, e, rfl⟩, ?_⟩
  rintro i m H ⟨rfl, hi, B', acc, as, zs, s1, bD, aD, ra, la, ez, ey⟩
  have bb := b0.trans s1.gr.1
  by_cases hlt : i < ds.length
  · refine .inr ⟨y.go i H hlt (bb.trans s1.bh), Iv (i + 1), fun H' iv => ⟨ds.length - (i + 1), by omega, rfl, hlt, iv⟩, fun x H' hy => ?_⟩
    obtain ⟨B2, s2, hr⟩ := y.yd i H x H' _ B' (List.getElem?_eq_getElem hlt) bb s1.bh hy
    rw [List.drop_eq_getElem_cons hlt] at ez
    unfold lcF at ez
    cases eg : g ds[i] (wipeE r vs) with
    | none => rw [eg] at ez; cases ez
    | some r1 =>
      rw [eg] at ez
      have ez : ((ft r1).bind fun b => if b then (fe r1).bind fun y => (lcF g ft fe (wipeE r vs) (ds.drop (i + 1))).bind fun ys => .ok (y :: ys) else lcF g ft fe (wipeE r vs) (ds.drop (i + 1))) = .ok zs := ez
      refine hg F B2 H' _ _ r1 x _ _ (((k.stp s1).stp s2).wipe vs) hr eg fun σ2 k2 w2 => ⟨w2.trans hw, ?_⟩
      cases et : ft r1 with
      | no => rw [et] at ez; cases ez
      | er c => rw [et] at ez; cases ez
      | ok b =>
        rw [et, R.ok_bind] at ez
        refine ht F B2 H' σ2 r1 _ k2 ?_
        rw [et]
        intro B3 H3 s3
        have s13 := (s1.trans s2).trans s3
        have d3 : H3 Dl = some (.lst acc) := (s2.trans s3).hh _ _ aD
        have b3 : B3 Dl = none := by rw [(s2.trans s3).gr.2.1 Dl _ aD]; exact bD
        have r3 : RepAll K B3 acc as := ra.mono (s2.trans s3).gr.1
        cases b with
        | false =>
          exact ⟨B3, acc, as, zs, s13, b3, d3, r3, by omega, ez, ey⟩
        | true =>
          have ez : ((fe r1).bind fun y => (lcF g ft fe (wipeE r vs) (ds.drop (i + 1))).bind fun ys => .ok (y :: ys)) = .ok zs := ez
          show te σ2 H3 _
          refine he F B3 H3 σ2 r1 _ (k2.stp s3) ?_
          cases ee : fe r1 with
          | no => rw [ee] at ez; cases ez
          | er c => rw [ee] at ez; cases ez
          | ok d =>
            rw [ee, R.ok_bind] at ez
            intro B4 H4 s4 v hv
            cases el : lcF g ft fe (wipeE r vs) (ds.drop (i + 1)) with
            | no => rw [el] at ez; cases ez
            | er c => rw [el] at ez; cases ez
            | ok us =>
              rw [el, R.ok_bind] at ez
              cases ez
              have b4 : B4 Dl = none := by rw [s4.gr.2.1 Dl _ d3]; exact b3
              have lacc := r3.length
              refine ⟨acc, s4.hh _ _ d3, szlt (by omega), B4, acc ++ [v], as ++ [d], us, ?_, b4, upd_same, (r3.mono s4.gr.1).append (.one hv), by rw [List.length_append]; simp; omega, el, by rw [ey, List.append_assoc]; rfl⟩
              have s14 := s13.trans s4
              exact ⟨s14.gr, s14.bh.put b4 (nc_plain (s4.hh.at d3)), s14.hh.put hD (nc_plain (s4.hh.at d3))⟩
  · have e : i = ds.length := by omega
    subst e
    rw [List.drop_length] at ez
    cases ez
    rw [List.append_nil] at ey
    subst ey
    exact .inl ⟨y.st H (bb.trans s1.bh), q B' H s1 bD ⟨acc, aD, ra⟩⟩
theorem wipe2 (σ : L2.St) (vs : List Nat) : L2.wipe (L2.wipe σ vs) vs = L2.wipe σ vs := by
  refine List.ext_getElem? fun i => ?_
  by_cases h : i ∈ vs
  · have z : ∀ (s t : L2.St), s.length = t.length → ∀ ws : List Nat, i ∈ ws → (L2.wipe s ws)[i]? = (L2.wipe t ws)[i]? := by
      intro s t hl ws
      induction ws with
      | nil => intro q; cases q
      | cons j ws ih =>
        intro q
        show ((L2.wipe s ws).set j none)[i]? = ((L2.wipe t ws).set j none)[i]?
        by_cases hj : j = i
        · subst hj
          by_cases hs : j < s.length
          · rw [List.getElem?_set_self (by rw [wipe_length]; exact hs), List.getElem?_set_self (by rw [wipe_length]; omega)]
          · rw [List.getElem?_eq_none (by rw [List.length_set, wipe_length]; omega), List.getElem?_eq_none (by rw [List.length_set, wipe_length]; omega)]
        · rw [List.getElem?_set_ne hj, List.getElem?_set_ne hj]
          rcases List.mem_cons.mp q with e | q
          · exact absurd e.symm hj
          · exact ih q
    exact z _ _ (wipe_length σ vs) vs h
  · exact wipe_keep _ i vs h
abbrev Blk (X : Cx) (scope : Scope) (s : Shared) (H : Hp) (C : Addr) (cl : List (Str × Addr)) (fp : List Addr) : Cx := X.blk s H scope (compEnvC scope cl C X.env) fp
theorem df_lc {b : Bool} (own : List (Str × Nat)) {elt tg iter : Expr} {ifs : List Expr} {scope : Scope} {pos : Pos} {fi : Env → R (List Da)} {g : Da → Env → Option Env} {ft : Env → R Bool} {fe : Env → R Da}
    (hN : X.N.Nodup) (hi : DI b cls X W tg iter fi) (ok : BlkOk X.N X.env.scope scope own)
    (hg : ∀ (s : Shared) (H : Hp) (C : Addr) (cl : List (Str × Addr)) (fp : List Addr), DGw b (Blk X scope s H C cl fp) (own.map (·.2)) tg g)
    (ht : ∀ (s : Shared) (H : Hp) (C : Addr) (cl : List (Str × Addr)) (fp : List Addr), DTs cls (Blk X scope s H C cl fp) (fun _ _ _ _ => False) ifs ft)
    (he : ∀ (s : Shared) (H : Hp) (C : Addr) (cl : List (Str × Addr)) (fp : List Addr), DE cls (Blk X scope s H C cl fp) (fun _ _ _ _ => False) elt fe)
    (hc : X.calm = true := by rfl) (hs : ∀ x, foldedSetIterable iter X.env x = pure x := by intro _; rfl) : DF cls X W (.ListComp elt [⟨tg, iter, ifs, 0⟩] scope pos) (eLc (own.map (·.2)) fi g ft fe) := by
  obtain ⟨wi, pi, hi⟩ := hi.run
  refine ⟨_, pe_lc (g := cG b X.K (own.map (·.2)) g) (tt := cTs X.K cls (fun _ _ _ _ => False) ft) (te := cE X.K cls (fun _ _ _ _ => False) fe) hc hN pi ok (fun s H C cl fp => (hg s H C cl fp).pg) (fun s H C cl fp => (ht s H C cl fp).pt) (fun s H C cl fp => (he s H C cl fp).pe) hs, fun F B H σ r Q k p => ?_⟩
  refine hi F B H σ r _ k (p.bind.imp fun ds B1 H1 s1 p1 J y => ?_)
  intro Dl hD
  have p1 : Pw cls B1 H1 σ W (WfF X.K H Q) (if ds.length ≤ 100000 then (lcF g ft fe (wipeE r (own.map (·.2))) ds).calm.bind fun ys => .ok (.list ys) else .no) := p1
  by_cases hz : ds.length ≤ 100000
  · rw [if_pos hz] at p1
    obtain ⟨ys, e, q⟩ := p1.bind.calm
    exact lc_run (W := fun _ _ _ _ => False) (K := X.K) (fun F B H σ r r' v d Q k hd e q => ⟨F, B, r, r', d, k, hd, e, q⟩) (fun F B H σ r Q k p => ⟨F, B, r, k, p⟩) (fun F B H σ r Q k p => ⟨F, B, r, k, p⟩) y (Le.refl _) (k.stp s1) hz (wipe2 σ _) e hD
      fun B' H' s b o => q B' H' s B' H' (Stp.refl s.bh) Dl (s1.hh.back hD) b o
  · rw [if_neg hz] at p1
    exact p1.elim
end
end Mi

namespace Mi
open PySem PySem.Spec PyProof.Rows L2

def spF (K : PySem.W.Frag) (cls : String → Value) (m : List Da → R Da) : Sp := fun vs H Q E => ∃ B ds, Le B H ∧ RepAll K B vs ds ∧ TbAll K H ∧ match m ds with
  | .ok d => ∀ B' H' v, Stp B H B' H' → Rep K B' v d → Q v H'
  | .er c => ∀ H', Le H H' → E (cls c) none H'
  | .no => False
structure Def (cls : String → Value) (P : Program) (w : World) (K : PySem.W.Frag) (mg : Str → Option Value) (base : Heap) (x : Str) (k : Nat) (m : List Da → R Da) : Prop where
  ex : ∃ f fd ps, mg x = some (.ref f) ∧ PySem.W.keepIn K (.ref f) = true ∧ Binds K fd ps [] ∧ FnOk P w K mg base (L2.CX P w) k f fd ps (spF K cls m)
structure Raw (K : PySem.W.Frag) (mg : Str → Option Value) (x : Str) (st : Stmt) : Prop where
  ex : ∃ f fd, Fun K x x st f fd ∧ mg x = some (.ref f)
def eCall (m : List Da → R Da) (fs : Env → R (List Da)) : Env → R Da := fun r => (fs r).bind m
section
variable {cls : String → Value} {X : Cx} {W : WX}
theorem de_call {x : Str} {k : Nat} {m : List Da → R Da} {e : Expr} {es : List Expr} {fs : Env → R (List Da)} {p pos : Pos} (G : Def cls X.prog X.w X.K X.mg X.base x k m) (hr : Room k X.A) (tk : Takes X W) (ha : DA cls X W (e :: es) fs)
    (hg : Gl X x := by rfl) (hdb : (x == ("__debug__" : Str)) = false := by decide) (he : starEach (e :: es) X.env = (false, eval e X.env) :: starEach es X.env := by rfl) (hpl : (backTo pos (starEach es X.env)).any (·.1) = false := by rfl) :
    DE cls X W (.Call (.Name x p) (e :: es) [] pos) (eCall m fs) := by
  obtain ⟨f, fd, ps, hm, hk, hb, F⟩ := G.ex
  obtain ⟨t, pt, h⟩ := ha.run
  refine ⟨_, pe_callS F hr hg hm hk hb (fun σ => passAt tk σ) pt hdb he hpl, fun F0 B H σ r Q k p => h F0 B H σ r _ k (p.bind.imp fun ds B1 H1 s1 p1 vs hvs => ⟨B1, ds, s1.bh, hvs, k.tb.mono (k.fh.trans s1.hh), ?_⟩)⟩
  cases q : m ds with
  | ok d =>
    rw [q] at p1
    exact fun B' H' v s hv => p1 B' H' s v hv
  | er c =>
    rw [q] at p1
    exact fun H' l => p1 B1 H' ⟨Gr.refl _ _, s1.bh.trans l, l⟩
  | no =>
    rw [q] at p1
    exact p1
end
def env0 (n : Nat) (ds : List Da) : Env := ds.map Sl.fz ++ List.replicate (n - ds.length) .un
def outS : SR → R Da
  | .nx _ => .ok .none
  | .rt d => .ok d
  | .er c _ => .er c
  | _ => .no
def fnD (np n : Nat) (g : Env → SR) : List Da → R Da := fun ds => if ds.length = np then outS (g (env0 n ds)) else .no
theorem repAll_get {K : PySem.W.Frag} {B : Hp} : ∀ {vs : List V} {ds : List Da} {i : Nat} {d : Da}, RepAll K B vs ds → (ds.map Sl.fz)[i]? = some (.fz d) → ∃ v, (vs.map some)[i]? = some (some v) ∧ Rep K B v d := fun {vs ds i d} h e => by
  rw [List.getElem?_map] at e
  cases q : ds[i]? with
  | none => rw [q] at e; cases e
  | some d' =>
    rw [q] at e
    cases e
    obtain ⟨v, h1, h2⟩ := h.get q
    exact ⟨v, by rw [List.getElem?_map, h1]; rfl, h2⟩
theorem ok_start {K : PySem.W.Frag} {B H : Hp} {N : List Str} {vs : List V} {ds : List Da} (b : Le B H) (h : RepAll K B vs ds) (tb : TbAll K H) : Ok K H B H (start N vs) (env0 N.length ds) := by
  have hl := h.length
  have shape : ∀ (i : Nat) (s : Sl), (env0 N.length ds)[i]? = some s → s = .un ∨ ∃ d, s = .fz d ∧ (ds.map Sl.fz)[i]? = some (.fz d) ∧ i < ds.length := by
    intro i s e
    unfold env0 at e
    by_cases hi : i < ds.length
    · rw [List.getElem?_append_left (by rw [List.length_map]; exact hi)] at e
      rw [List.getElem?_map, List.getElem?_eq_getElem hi] at e
      cases e
      refine .inr ⟨ds[i], rfl, ?_, hi⟩
      rw [List.getElem?_map, List.getElem?_eq_getElem hi]
      rfl
    · rw [List.getElem?_append_right (by rw [List.length_map]; omega)] at e
      have e' := List.getElem?_eq_some_iff.mp e
      obtain ⟨h1, h2⟩ := e'
      rw [List.getElem_replicate] at h2
      exact .inl h2.symm
  refine ⟨b, Le.refl _, ?_, fun i s e => ?_, fun i j d1 d2 p ne e1 e2 h1 h2 => ?_, tb, cmi_none fun i c e => ?_⟩
  · unfold L2.start env0
    rw [List.length_append, List.length_append, List.length_map, List.length_map, List.length_replicate, List.length_replicate, hl]
  · rcases shape i s e with q | ⟨d, q, e1, hi⟩
    · subst q
      trivial
    · subst q
      obtain ⟨v, h1, h2⟩ := repAll_get h e1
      refine ⟨v, ?_, h2⟩
      unfold L2.start
      rw [List.getElem?_append_left (by rw [List.length_map]; omega)]
      exact h1
  · rcases shape i _ e1 with q | ⟨d, q, _, _⟩
    · cases q
    · cases q
  · rcases shape i _ e with q | ⟨d, q, _, _⟩
    · cases q
    · cases q
theorem mkDefX {cls : String → Value} {P : Program} {w : World} {K : PySem.W.Frag} {mg : Str → Option Value} {base : Heap} {x : Str} {st : Stmt} {N ps : List Str} {k : Nat} {g : Env → SR} (R0 : Raw K mg x st) (S : FnScope N ps (defScope st))
    (hb : ∀ (kV doc pm : Value) (an : Option Addr) (cdv ct : Value) (us : List Value), us.length = ps.length → bindArgs (PySem.W.fnOf x x (defArgs st) (defBody st) (defScope st) .none kV doc pm an cdv ct) ⟨us, []⟩ = pure (ps.zip us))
    (body : ∀ (X : Cx) (E : XK) (f : Addr) (cdv : Value) (A : Around) (outer : List PySem.Env) (s : Shared) (H : Hp), X = cxOf (L2.CX P w) P w K mg base N x (defScope st) f cdv A outer s H E → Room k X.A → Takes X (fun c d _ H => E c d H) → PassesOwn (model X.prog X.w) X.A X.env X.xe →
      DSs cls X (fun c d _ H => E c d H) (defBody st) g) : ∃ f fd, Fun K x x st f fd ∧ mg x = some (.ref f) ∧ FnOk P w K mg base (L2.CX P w) (k + 1) f fd ps (spF K cls (fnD ps.length N.length g)) := by
  obtain ⟨f, fd, F, hm⟩ := R0.ex
  refine ⟨f, fd, F, hm, F.okX S (fun vs H Q E h => ?_) (fun cdv A outer s H vs Q E hr h => ?_)⟩
  · obtain ⟨B, ds, b, r, tb, h⟩ := h
    rw [r.length]
    unfold fnD at h
    by_cases hl : ds.length = ps.length
    · exact hl
    · rw [if_neg hl] at h
      exact h.elim
  · obtain ⟨B, ds, b, r, tb, h⟩ := h
    have tk : Takes (cxOf (L2.CX P w) P w K mg base N x (defScope st) f cdv A outer s H E) (fun c d _ H => E c d H) := takes_of rfl rfl rfl rfl
    have hp : PassesOwn (model (cxOf (L2.CX P w) P w K mg base N x (defScope st) f cdv A outer s H E).prog (cxOf (L2.CX P w) P w K mg base N x (defScope st) f cdv A outer s H E).w) (cxOf (L2.CX P w) P w K mg base N x (defScope st) f cdv A outer s H E).A (cxOf (L2.CX P w) P w K mg base N x (defScope st) f cdv A outer s H E).env (cxOf (L2.CX P w) P w K mg base N x (defScope st) f cdv A outer s H E).xe := passes_of rfl
    obtain ⟨t, pt, hd⟩ := (body _ E f cdv A outer s H rfl hr tk hp).run
    refine ⟨t, pt, hd H B H _ (env0 N.length ds) _ (ok_start b r tb) ?_⟩
    unfold fnD at h
    by_cases hl : ds.length = ps.length
    · rw [if_pos hl] at h
      cases q : g (env0 N.length ds) with
      | nx r' =>
        rw [q] at h
        exact fun B' H' σ' gr k' => h B' H' _ ⟨gr, k'.bh, k'.fh⟩ .non
      | rt d =>
        rw [q] at h
        exact fun B' H' v gr l1 l2 hv => h B' H' v ⟨gr, l1, l2⟩ hv
      | er c r' =>
        rw [q] at h
        exact fun B' H' σ' gr k' => h H' k'.fh
      | bk r' =>
        rw [q] at h
        exact h.elim
      | ct r' =>
        rw [q] at h
        exact h.elim
      | no =>
        rw [q] at h
        exact h.elim
    · rw [if_neg hl] at h
      exact h.elim

theorem mkDef {cls : String → Value} {P : Program} {w : World} {K : PySem.W.Frag} {mg : Str → Option Value} {base : Heap} {x : Str} {st : Stmt} {N ps : List Str} {k : Nat} {g : Env → SR} (R0 : Raw K mg x st) (S : FnScope N ps (defScope st))
    (hb : ∀ (kV doc pm : Value) (an : Option Addr) (cdv ct : Value) (us : List Value), us.length = ps.length → bindArgs (PySem.W.fnOf x x (defArgs st) (defBody st) (defScope st) .none kV doc pm an cdv ct) ⟨us, []⟩ = pure (ps.zip us))
    (body : ∀ (X : Cx) (E : XK) (f : Addr) (cdv : Value) (A : Around) (outer : List PySem.Env) (s : Shared) (H : Hp), X = cxOf (L2.CX P w) P w K mg base N x (defScope st) f cdv A outer s H E → Room k X.A → Takes X (fun c d _ H => E c d H) → PassesOwn (model X.prog X.w) X.A X.env X.xe →
      DSs cls X (fun c d _ H => E c d H) (defBody st) g) : Def cls P w K mg base x (k + 1) (fnD ps.length N.length g) := by
  obtain ⟨f, fd, F, hm, ok⟩ := mkDefX R0 S hb body
  exact ⟨f, fd, ps, hm, F.kp, F.binds hb, ok⟩

section
variable {cls : String → Value} {X : Cx} {W : WX}
def frzE (i : Nat) (r : Env) : Env := match r[i]? with
  | some (.ow (.list ds)) => r.set i (.fz (.list ds))
  | _ => r
def sFrz (i : Nat) (g : Env → SR) : Env → SR := fun r => g (frzE i r)
theorem Ok.frzE {K : PySem.W.Frag} {F B H : Hp} {σ : L2.St} {r : Env} (i : Nat) (k : Ok K F B H σ r) : ∃ B', Gr F B B' ∧ Ok K F B' H σ (frzE i r) := by
  unfold Mi.frzE
  split
  · rename_i ds e
    obtain ⟨p, a, b1, b2, xs, b3, b4⟩ := k.sl i _ e
    have l : Le B (upd B p (.lst xs)) := Le.new b2
    obtain ⟨g, k'⟩ := k.frz (H' := H) (o := .lst xs) (d := .list ds) e a b2 b1 b3 (fun _ _ => rfl) (.lst (.inl (.inl upd_same)) (b4.mono l))
    exact ⟨_, g, k'⟩
  · exact ⟨B, Gr.refl _ _, k⟩
theorem dss_frz (i : Nat) {sts : List Stmt} {g : Env → SR} (h : DSs cls X W sts g) : DSs cls X W sts (sFrz i g) := by
  obtain ⟨t, pt, h⟩ := h.run
  refine ⟨t, pt, fun F B H σ r D k p => ?_⟩
  obtain ⟨B', gr, k'⟩ := k.frzE i
  exact h F B' H σ _ D k' (Ps.gr p gr)
def sApp (i : Nat) (f : Env → R Da) : Env → SR := fun r => match r[i]? with
  | some (.ow (.list ds)) => bS r (f r) fun d => if ds.length < 100000 then .nx (r.set i (.ow (.list (ds ++ [d])))) else .no
  | _ => .no
theorem ds_app (i : Nat) {x : Str} {e : Expr} {f : Env → R Da} {p apos cpos pos : Pos} (he : DE cls X W e f) (hN : X.N[i]? = some x := by rfl) (hv : Vis X.env.scope x := by first | exact Or.inl rfl | exact Or.inr (Or.inl rfl) | exact Or.inr (Or.inr rfl))
    (hd : (x == ("__debug__" : Str)) = false := by decide) (hcd : (x == ("__classdict__" : Str)) = false := by decide)
    (hsw : swapsWith (.Call (.Attribute (.Name x p) "append" apos) [e] [] cpos) none pos.line X.env = pure false := by rfl)
    (hbase : attributeBase (.Name x p) "append" X.env (eval (.Name x p) X.env) = eval (.Name x p) X.env := by rfl)
    (hfew : ((backTo cpos (starEach [e] X.env)).all (fun x => !x.1) && (backToKw cpos (keywordEach [] X.env)).all (fun x => x.1.isSome)
      && decide ([e].length + ([] : List Keyword).length + (if ([] : List Keyword).isEmpty then 0 else 1) < 30)) = true := by rfl)
    (hline : (apos.endLine == cpos.line) = true := by rfl) (hs : starEach [e] X.env = (false, eval e X.env) :: starEach [] X.env := by rfl) :
    DS cls X W (.Expr (.Call (.Attribute (.Name x p) "append" apos) [e] [] cpos) pos) (sApp i f) := by
  obtain ⟨t, pt, h⟩ := he.run
  refine ⟨_, ps_expr (pe_bm PySem.F.plainAttrs_list PySem.F.slot_list_append PySem.F.type_list_append mt_append (pe_var hN hv hd hcd) (pa_cons pt pa_nil hs) hbase hfew hline hs rfl) hsw, fun F B H σ r D k q => ?_⟩
  unfold sApp at q
  split at q
  · rename_i ds e0
    obtain ⟨a, h1, b1, b2, xs, b3, b4⟩ := k.sl i _ e0
    refine ⟨.ref a, h1, .inl ⟨rfl, xs, .inl (.inl b3)⟩, ?_⟩
    refine h F B H σ r _ k ((Ps.bS q k).imp fun d B' H' s q v hv => ?_)
    by_cases hl : ds.length < 100000
    · rw [if_pos hl] at q
      have k' := k.stp s
      have hx := b4.length
      refine ⟨a, xs, v, rfl, rfl, s.hh _ _ b3, szlt (by omega), q B' _ σ (Gr.refl _ _) ?_⟩
      refine k'.put e0 h1 ⟨xs ++ [v], upd_same, (b4.mono s.gr.1).append (.one hv)⟩
    · rw [if_neg hl] at q
      exact q.elim
  · exact q.elim
def ixD (n : Nat) (i : Int) : Option Nat := ixN n i
def sPut (i : Nat) (fi fv : Env → R Da) : Env → SR := fun r => match r[i]? with
  | some (.ow (.list ds)) => bS r (fv r) fun d => bS r (fi r) fun j => match j with
    | .int j => match ixD ds.length j with
      | some n => .nx (r.set i (.ow (.list (ds.set n d))))
      | none => .no
    | _ => .no
  | _ => .no
theorem ds_put (i : Nat) {x : Str} {ei e : Expr} {fi f : Env → R Da} {p tpos pos : Pos} (he : DE cls X W e f) (hei : DE cls X W ei fi) (hN : X.N[i]? = some x := by rfl) (hv : Vis X.env.scope x := by first | exact Or.inl rfl | exact Or.inr (Or.inl rfl) | exact Or.inr (Or.inr rfl))
    (hd : (x == ("__debug__" : Str)) = false := by decide) (hcd : (x == ("__classdict__" : Str)) = false := by decide)
    (ha : ∀ v, assign (.Subscript (.Name x p) ei tpos) X.env v = (do
      let ov ← holding [v] (eval (.Name x p) X.env)
      let iv ← holding [v, ov] (eval ei X.env)
      standAt tpos
      holding [v, ov, iv] (setItem ov iv v)
      release [v, ov, iv] []) := by intro _; rfl)
    (hs : swapsWithSole [.Subscript (.Name x p) ei tpos] e pos.line X.env = pure false := by rfl) (hw : swappedStores [.Subscript (.Name x p) ei tpos] e X.env = pure none := by rfl)
    (h1 : (assignEach [.Subscript (.Name x p) ei tpos] X.env).map (·.2) = [assign (.Subscript (.Name x p) ei tpos) X.env] := by rfl) :
    DS cls X W (.Assign [.Subscript (.Name x p) ei tpos] e pos) (sPut i fi f) := by
  obtain ⟨t, pt, h⟩ := he.run
  obtain ⟨u, pu, h'⟩ := hei.run
  refine ⟨_, ps_asg pt (pg_sub (pe_var hN hv hd hcd) pu set_list ha) hs hw h1, fun F B H σ r D k q => ?_⟩
  unfold sPut at q
  split at q
  · rename_i ds e0
    obtain ⟨a, h1, b1, b2, xs, b3, b4⟩ := k.sl i _ e0
    refine h F B H σ r _ k ((Ps.bS q k).imp fun d B' H' s q v hv => ⟨.ref a, h1, ?_⟩)
    have k' := k.stp s
    refine h' F B' H' σ r _ k' ((Ps.bS q k').imp fun j B2 H2 s2 q2 w hw => ?_)
    cases j with
    | int j =>
      cases hw
      have q2 : Ps X.K cls F B2 D W (match ixD ds.length j with | some n => .nx (r.set i (.ow (.list (ds.set n d)))) | none => .no) := q2
      cases en : ixD ds.length j with
      | none => rw [en] at q2; exact q2.elim
      | some n =>
        rw [en] at q2
        refine ⟨a, xs, j, n, rfl, rfl, s2.hh _ _ (s.hh _ _ b3), by rw [b4.length]; exact en, q2 B2 _ σ (Gr.refl _ _) ?_⟩
        exact (k'.stp s2).put e0 h1 ⟨xs.set n v, upd_same, ((b4.mono s.gr.1).mono s2.gr.1).set (hv.mono s2.gr.1) n⟩
    | none => exact q2.elim
    | bool b => exact q2.elim
    | str b => exact q2.elim
    | tuple b => exact q2.elim
    | list b => exact q2.elim
    | dict b => exact q2.elim
  · exact q.elim
theorem ds_ownLc {b : Bool} (i : Nat) (own : List (Str × Nat)) {y : Str} {py spos : Pos} {elt tg iter : Expr} {ifs : List Expr} {scope : Scope} {pos : Pos} {fi : Env → R (List Da)} {g : Da → Env → Option Env} {ft : Env → R Bool} {fe : Env → R Da}
    (hN : X.N.Nodup) (hi : DI b cls X W tg iter fi) (ok : BlkOk X.N X.env.scope scope own)
    (hg : ∀ (s : Shared) (H : Hp) (C : Addr) (cl : List (Str × Addr)) (fp : List Addr), DGw b (Blk X scope s H C cl fp) (own.map (·.2)) tg g)
    (ht : ∀ (s : Shared) (H : Hp) (C : Addr) (cl : List (Str × Addr)) (fp : List Addr), DTs cls (Blk X scope s H C cl fp) (fun _ _ _ _ => False) ifs ft)
    (he : ∀ (s : Shared) (H : Hp) (C : Addr) (cl : List (Str × Addr)) (fp : List Addr), DE cls (Blk X scope s H C cl fp) (fun _ _ _ _ => False) elt fe)
    (hy : X.N[i]? = some y := by rfl) (hyl : X.env.scope.names.lookup y = some .local := by rfl)
    (hsw : swapsWith (.ListComp elt [⟨tg, iter, ifs, 0⟩] scope pos) (some (.Name y py)) spos.line X.env = pure true := by first | rfl | exact sw_true rfl rfl rfl (by decide +kernel))
    (hc : X.calm = true := by rfl) (hs : ∀ x, foldedSetIterable iter X.env x = pure x := by intro _; rfl) : DS cls X W (.Assign [.Name y py] (.ListComp elt [⟨tg, iter, ifs, 0⟩] scope pos) spos) (sOwn i (eLc (own.map (·.2)) fi g ft fe)) := by
  obtain ⟨wi, pi, hi⟩ := hi.run
  refine ⟨_, ps_setLc (g := cG b X.K (own.map (·.2)) g) (tt := cTs X.K cls (fun _ _ _ _ => False) ft) (te := cE X.K cls (fun _ _ _ _ => False) fe) hc hN hy hyl hsw pi ok (fun s H C cl fp => (hg s H C cl fp).pg) (fun s H C cl fp => (ht s H C cl fp).pt) (fun s H C cl fp => (he s H C cl fp).pe) hs, fun F B H σ r D k p => ?_⟩
  refine hi F B H σ r _ k ((Ps.bS p k).bind.imp fun ds B1 H1 s1 p1 J yl => ?_)
  intro Dl hD
  have p1 : Pw cls B1 H1 σ W (fun a B' H' => Ps X.K cls F B' D W (.nx (r.set i (.ow a)))) (if ds.length ≤ 100000 then (lcF g ft fe (wipeE r (own.map (·.2))) ds).calm.bind fun ys => .ok (.list ys) else .no) := p1
  by_cases hz : ds.length ≤ 100000
  · rw [if_pos hz] at p1
    obtain ⟨ys, e, q⟩ := p1.bind.calm
    exact lc_run (W := fun _ _ _ _ => False) (K := X.K) (Q := fun x H1 => gName i x σ H1 D.nx) (fun F B H σ r r' v d Q k hd e q => ⟨F, B, r, r', d, k, hd, e, q⟩) (fun F B H σ r Q k p => ⟨F, B, r, k, p⟩) (fun F B H σ r Q k p => ⟨F, B, r, k, p⟩) yl (Le.refl _) (k.stp s1) hz (wipe2 σ _) e hD
      fun B' H' s b o => q B' H' s B' H' (Stp.refl s.bh) B' H' _ (Gr.refl _ _) (k.own (s1.trans s) (s1.hh.back hD) b o)
  · rw [if_neg hz] at p1
    exact p1.elim

structure ExF (K : PySem.W.Frag) (mg : Str → Option Value) (cls : String → Value) (x : Str) (c : String) : Prop where
  ex : ∃ C, cls c = .ref C ∧ mg x = some (.ref C) ∧ PySem.W.excIn K C [.type "ValueError", .type "Exception", .type "BaseException", .type "object"] "ValueError.__new__" = true ∧ PySem.W.keepIn K (.ref C) = true ∧
    PySem.W.subIn K (.ref C) (.type "BaseException") = some true ∧ PySem.W.typeIn K (.ref C) = some (.type "type")
def sRaise (c : String) : Env → SR := fun r => .er c r
theorem ds_raise {x m : Str} {c : String} {j : Nat} {p p2 pos pos' : Pos} (F0 : ExF X.K X.mg cls x c) (tk : Takes X W) (hg : Gl X x := by rfl) (hc : X.calm = true := by rfl) (hdb : (x == ("__debug__" : Str)) = false := by decide) :
    DS cls X W (.Raise (some (.Call (.Name x p) [.Constant (.str m) j p2] [] pos)) none pos') (sRaise c) := by
  obtain ⟨C, e0, gP, xP, kP, bP, tP⟩ := F0.ex
  refine ⟨_, ps_raise hc tk (pmk_own PySem.F.excBase_ValueError xP gP kP (raises_own bP tP) hg hdb), fun F B H σ r D k q => ?_⟩
  have q := q B H σ (Gr.refl _ _) k
  rw [e0] at q
  exact q
end
end Mi

namespace Mi
open PySem PySem.Spec PyProof.Rows L2

inductive Kd where
  | ls (a : Addr)
  | tp (a : Addr)
  | sg (z : Str) (tk : Tok)
def Kd.val : Kd → Value
  | .ls a => .ref a
  | .tp a => .ref a
  | .sg z t => .str z t
def Kd.ob : Kd → Obj
  | .ls a => { cls := .type "list_iterator", data := .fields #[.ref a, .int 0 0] }
  | .tp a => { cls := .type "tuple_iterator", data := .fields #[.ref a, .int 0 0] }
  | .sg z t => { cls := .type (strIterType z), data := .fields #[.str z t, .int 0 0] }
def Kd.st : Kd → Addr → Nat → Heap → Prop
  | .ls a, it, i, h => h.IsListIter it a i
  | .tp a, it, i, h => h.IsTupleIter it a i
  | .sg z t, it, i, h => h.IsStrIter it (strIterType z) z t i
def sgV (z : Str) : List V := z.cps.toList.map fun c => V.str ⟨#[c]⟩
def Kd.on (K : PySem.W.Frag) (H : Hp) (xs : List V) : Kd → Prop
  | .ls a => SqL K H a xs
  | .tp a => SqT K H a xs
  | .sg z _ => xs = sgV z
def Kd.src : Kd → List Addr
  | .ls a => [a]
  | .tp a => [a]
  | .sg _ _ => []
theorem Kd.on_mono {K : PySem.W.Frag} {H H' : Hp} {xs : List V} {k : Kd} (e : Le H H') (h : k.on K H xs) : k.on K H' xs := by
  cases k with
  | ls a => exact e.sl h
  | tp a => exact e.st h
  | sg z t => exact h
theorem Kd.init {k : Kd} {it : Addr} {h : Heap} (e : h.get? it = some k.ob) : k.st it 0 h := by
  cases k with
  | ls a => exact ⟨_, e, rfl, rfl⟩
  | tp a => exact ⟨_, e, rfl, rfl⟩
  | sg z t => exact ⟨_, e, rfl, rfl⟩
theorem Kd.here {k : Kd} {it : Addr} {i : Nat} {h : Heap} (st : k.st it i h) : ∃ o, h.get? it = some o ∧ ∀ v, o.data ≠ .cell v := by
  cases k with
  | ls a =>
    obtain ⟨o, e, c, d⟩ := st
    exact ⟨o, e, fun v z => by rw [d] at z; cases z⟩
  | tp a =>
    obtain ⟨o, e, c, d⟩ := st
    exact ⟨o, e, fun v z => by rw [d] at z; cases z⟩
  | sg z t =>
    obtain ⟨o, e, c, d⟩ := st
    exact ⟨o, e, fun v z => by rw [d] at z; cases z⟩
theorem Kd.keep {k : Kd} {it : Addr} {i : Nat} {h h' : Heap} (st : k.st it i h) (hk : ∀ o, h.get? it = some o → h'.get? it = some o) : k.st it i h' := by
  cases k with
  | ls a =>
    obtain ⟨o, e, c, d⟩ := st
    exact ⟨o, hk o e, c, d⟩
  | tp a =>
    obtain ⟨o, e, c, d⟩ := st
    exact ⟨o, hk o e, c, d⟩
  | sg z t =>
    obtain ⟨o, e, c, d⟩ := st
    exact ⟨o, hk o e, c, d⟩
theorem sgV_get {z : Str} {i c : Nat} (h : z.cps[i]? = some c) : (sgV z)[i]? = some (V.str ⟨#[c]⟩) := by
  unfold sgV
  rw [List.getElem?_map, Array.getElem?_toList, h]
  rfl
theorem sgV_len (z : Str) : (sgV z).length = z.cps.size := by
  unfold sgV
  rw [List.length_map, Array.length_toList]
section
variable {X : Cx} {pins : List (Addr × Obj)} {σ : L2.St} {H : Hp} {s : Shared} {xs : List V} {k : Kd}
theorem Kd.begins (I : Inv X pins σ H s) (on : k.on X.K H xs) : ∃ Hb, Begins k.val k.ob Hb ∧ Hb s.heap := by
  cases k with
  | ls a =>
    obtain ⟨its, rv, p, hz⟩ := I.list on
    exact ⟨_, begins_list a its.toArray, p.isList⟩
  | tp a =>
    obtain ⟨its, rv, p, hz⟩ := I.tuple on
    exact ⟨_, begins_tuple a its.toArray, p⟩
  | sg z t => exact ⟨_, begins_text z t, trivial⟩
theorem Kd.apart (I : Inv X pins σ H s) (on : k.on X.K H xs) {b : Addr} (f : FpOk X pins H b) : b ∉ k.src := by
  have base : ∀ a o, X.K.lookup a = some o → a ≠ b := fun a o e z => by
    have e1 := I.mod.kin a o e
    subst z
    rcases f.2.2.2.1 with q | q
    · exact I.ok.noex a o e1 q
    · exact absurd (Nat.lt_of_lt_of_le (Heap.lt_size e1) (Nat.le_trans I.ok.bsz q)) (Nat.lt_irrefl _)
  cases k with
  | ls a =>
    intro hb
    have hb : b = a := by simpa [Kd.src] using hb
    subst hb
    rcases on with (h | ⟨o, h⟩) | ⟨o, its, n, e, _⟩
    · rw [f.1] at h; cases h
    · rw [f.1] at h; cases h
    · exact base b o e rfl
  | tp a =>
    intro hb
    have hb : b = a := by simpa [Kd.src] using hb
    subst hb
    rcases on with (h | ⟨o, h⟩) | ⟨o, its, n, e, _⟩
    · rw [f.1] at h; cases h
    · rw [f.1] at h; cases h
    · exact base b o e rfl
  | sg z t => intro hb; cases hb
theorem Kd.draws (I : Inv X pins σ H s) (on : k.on X.K H xs) {A : Around} (hh : A.handled = none) {it : Addr} (hi : it ∉ k.src) :
    ∃ P St, Draws X.prog X.w A it (it :: k.src) xs.length P St ∧ (∀ j, k.st it j s.heap → St j s.heap) ∧ (∀ j h, St j h → k.st it j h) ∧ ∀ j v, P j v → ∃ x, xs[j]? = some x ∧ RelV x v := by
  cases k with
  | ls a =>
    obtain ⟨its, rv, p, hz⟩ := I.list on
    have hl := rv.length
    have ne : a ≠ it := fun z => hi (by rw [z]; exact List.mem_cons_self)
    have D := Draws.list (prog := X.prog) (w := X.w) hh it a ne its.toArray
    rw [List.size_toArray, ← hl] at D
    refine ⟨_, _, D, fun j st => ⟨st, p.isList⟩, fun j h st => st.1, fun j v e => ?_⟩
    have e : its[j]? = some v := by simpa using e
    cases q : xs[j]? with
    | none =>
      have := rv.none_of q
      rw [e] at this
      cases this
    | some x =>
      obtain ⟨u, h1, h2⟩ := rv.get q
      rw [e] at h1
      cases h1
      exact ⟨x, rfl, h2⟩
  | tp a =>
    obtain ⟨its, rv, p, hz⟩ := I.tuple on
    have hl := rv.length
    have ne : a ≠ it := fun z => hi (by rw [z]; exact List.mem_cons_self)
    have D := Draws.tuple (prog := X.prog) (w := X.w) hh it a ne its.toArray
    rw [List.size_toArray, ← hl] at D
    refine ⟨_, _, D, fun j st => ⟨st, p⟩, fun j h st => st.1, fun j v e => ?_⟩
    have e : its[j]? = some v := by simpa using e
    cases q : xs[j]? with
    | none =>
      have := rv.none_of q
      rw [e] at this
      cases this
    | some x =>
      obtain ⟨u, h1, h2⟩ := rv.get q
      rw [e] at h1
      cases h1
      exact ⟨x, rfl, h2⟩
  | sg z t =>
    have on : xs = sgV z := on
    subst on
    have D := Draws.text (prog := X.prog) (w := X.w) hh it z t
    rw [← sgV_len] at D
    exact ⟨_, _, D, fun j st => st, fun j h st => st, fun j v ⟨c, u, e, ev⟩ => ⟨_, sgV_get e, by rw [ev]; exact ⟨u, rfl⟩⟩⟩
end

def ItZ (K : PySem.W.Frag) (k1 k2 : Kd) (xs ys : List V) : It :=
  ⟨fun i H => k1.on K H xs ∧ k2.on K H ys ∧ i < min xs.length ys.length,
    fun i H v H' => ∃ T x y, v = .ref T ∧ H T = none ∧ H' = upd H T (.tup [x, y]) ∧ xs[i]? = some x ∧ ys[i]? = some y,
    fun i H => k1.on K H xs ∧ k2.on K H ys ∧ i = min xs.length ys.length⟩
def ZipSt (k1 k2 : Kd) (z TI TO i1 i2 : Addr) (i : Nat) (h : Heap) : Prop :=
  IsZip h z TI TO .none ∧ IsTupOf2 h TI (.ref i1) (.ref i2) ∧ (∃ a1 a2, IsTupOf2 h TO a1 a2) ∧ k1.st i1 i h ∧ k2.st i2 i h
theorem zipsep {z TI TO i1 i2 : Addr} {l1 l2 : List Addr} (D : TI ≠ z ∧ TO ≠ z ∧ TI ≠ TO ∧ TI ≠ i1 ∧ TI ≠ i2 ∧ z ≠ i1 ∧ z ≠ i2 ∧ TO ≠ i1 ∧ TO ≠ i2 ∧ i1 ≠ i2) (h1 : ∀ b ∈ [z, TI, TO, i1, i2], b ∉ l1) (h2 : ∀ b ∈ [z, TI, TO, i1, i2], b ∉ l2) :
    ZipSep2 z TI TO i1 i2 (i1 :: l1) (i2 :: l2) := by
  obtain ⟨d1, d2, d3, d4, d5, d6, d7, d8, d9, d10⟩ := D
  have nm : ∀ {b i : Addr} {l : List Addr}, b ≠ i → b ∉ l → b ∉ i :: l := fun h1 h2 q => by
    rcases List.mem_cons.mp q with q | q
    · exact h1 q
    · exact h2 q
  exact { TIz := d1, TOz := d2, TITO := d3, TIi1 := d4, mem1 := List.mem_cons_self .., zf1 := nm d6 (h1 z (by simp)), Tf1 := nm d8 (h1 TO (by simp)), TIi2 := d5, mem2 := List.mem_cons_self .., zf2 := nm d7 (h2 z (by simp)), Tf2 := nm d9 (h2 TO (by simp)), sep1_2 := nm d10 (h2 i1 (by simp)), sep2_1 := nm (Ne.symm d10) (h1 i2 (by simp)) }
theorem sub4 {z TI TO i1 i2 b : Addr} (h : b ∈ [z, TO, i1, i2]) : b ∈ [z, TI, TO, i1, i2] := by
  rcases List.mem_cons.mp h with q | h
  · rw [q]; exact List.mem_cons_self
  · exact List.mem_cons_of_mem _ (List.mem_cons_of_mem _ h)
theorem turn_zip2 {P : Program} {w : World} {K : PySem.W.Frag} {elts : List Expr} {kk : Nat} {tpos : Pos} {k1 k2 : Kd} {xs ys : List V} {z TI TO i1 i2 : Addr}
    (D : TI ≠ z ∧ TO ≠ z ∧ TI ≠ TO ∧ TI ≠ i1 ∧ TI ≠ i2 ∧ z ≠ i1 ∧ z ≠ i2 ∧ TO ≠ i1 ∧ TO ≠ i2 ∧ i1 ≠ i2) : Turn P w K (.Tuple elts kk tpos) (ItZ K k1 k2 xs ys) [z, TI, TO, i1, i2] z (ZipSt k1 k2 z TI TO i1 i2) where
  mem := by simp
  obj := fun i h st b hb => by
    obtain ⟨h1, h2, ⟨a1, a2, h3⟩, h4, h5⟩ := st
    have e' : b = z ∨ b = TI ∨ b = TO ∨ b = i1 ∨ b = i2 := by simpa using hb
    rcases e' with q | q | q | q | q
    · rw [q]; exact ⟨_, h1, fun v z => nomatch z⟩
    · rw [q]; exact ⟨_, h2, fun v z => nomatch z⟩
    · rw [q]; exact ⟨_, h3, fun v z => nomatch z⟩
    · rw [q]; exact Kd.here h4
    · rw [q]; exact Kd.here h5
  keep := fun i h h' st k => by
    obtain ⟨h1, h2, ⟨a1, a2, h3⟩, h4, h5⟩ := st
    exact ⟨k z (by simp) _ h1, k TI (by simp) _ h2, ⟨a1, a2, k TO (by simp) _ h3⟩, Kd.keep h4 fun o e => k i1 (by simp) o e, Kd.keep h5 fun o e => k i2 (by simp) o e⟩
  item := by
    intro X hP hw hK hc i pins s σ H E I hf st hg
    subst hP hw hK
    obtain ⟨on1, on2, hi⟩ := hg
    have n1 : ∀ b ∈ [z, TI, TO, i1, i2], b ∉ k1.src := fun b hb => Kd.apart I on1 (hf b hb)
    have n2 : ∀ b ∈ [z, TI, TO, i1, i2], b ∉ k2.src := fun b hb => Kd.apart I on2 (hf b hb)
    have hh : X.A.in1.handled = none := I.ok.hd hc
    obtain ⟨P1, S1, D1, a1, b1, c1⟩ := Kd.draws I on1 hh (n1 i1 (by simp))
    obtain ⟨P2, S2, D2, a2, b2, c2⟩ := Kd.draws I on2 hh (n2 i2 (by simp))
    have G := GoesN.zip2 (elts := elts) (x1 := kk) (pos := tpos) (zipsep D n1 n2) D1 D2
    obtain ⟨h1, h2, h3, h4, h5⟩ := st
    have lt : ∀ b ∈ [z, TI, TO, i1, i2], b < s.heap.objs.size := fun b hb => by
      obtain ⟨v1, v2, h3⟩ := h3
      have e' : b = z ∨ b = TI ∨ b = TO ∨ b = i1 ∨ b = i2 := by simpa using hb
      rcases e' with q | q | q | q | q
      · rw [q]; exact Heap.lt_size h1
      · rw [q]; exact Heap.lt_size h2
      · rw [q]; exact Heap.lt_size h3
      · rw [q]; obtain ⟨o, e, _⟩ := Kd.here h4; exact Heap.lt_size e
      · rw [q]; obtain ⟨o, e, _⟩ := Kd.here h5; exact Heap.lt_size e
    refine wpAny_mono (G.goes i s (fun v s2 => ∃ x H', Inv X pins σ H' s2 ∧ RelV x v ∧ (ItZ X.K k1 k2 xs ys).yld i H x H' ∧ ZipSt k1 k2 z TI TO i1 i2 (i + 1) s2.heap ∧ ∀ b ∈ [z, TI, TO, i1, i2], H' b = none) E hi ⟨h1, h2, h3, a1 i h4, a2 i h5⟩ fun v h' tk hY st' hk htk => ?_) (fun r s1 ⟨v, e, q⟩ => ⟨v, e, q⟩) fun _ _ q => q
    obtain ⟨T, x, y, rfl, hT, p1, p2, ht⟩ := hY
    obtain ⟨x', ex, rx⟩ := c1 i x p1
    obtain ⟨y', ey, ry⟩ := c2 i y p2
    have hn : H T = none := I.hok.fresh hT
    have new : ObjOk X.prog X.w (upd H T (.tup [x', y'])) h' T (.tup [x', y']) := ⟨by show 2 ≤ sizeLine; decide, [x, y], .cons rx (.cons ry .nil), ht⟩
    have I1 : Inv X pins σ (upd H T (.tup [x', y'])) { s with heap := h', toks := tk } :=
      I.turnedNew (ch := [z, TI, TO, i1, i2]) (fun b ob hb q => hk b ob (fun q4 => hb (sub4 q4)) q) hf hT new
    refine ⟨.ref T, _, I1, rfl, ⟨T, x', y', rfl, hn, rfl, ex, ey⟩, ⟨st'.1, st'.2.1, st'.2.2.1, b1 _ _ st'.2.2.2.1, b2 _ _ st'.2.2.2.2⟩, fun b hb => ?_⟩
    rw [upd_ne (Nat.ne_of_lt (Nat.lt_of_lt_of_le (lt b hb) hT))]
    exact (hf b hb).1
  done := by
    intro X hP hw hK hc i pins s σ H E I hf st hg
    subst hP hw hK
    obtain ⟨on1, on2, hi⟩ := hg
    have n1 : ∀ b ∈ [z, TI, TO, i1, i2], b ∉ k1.src := fun b hb => Kd.apart I on1 (hf b hb)
    have n2 : ∀ b ∈ [z, TI, TO, i1, i2], b ∉ k2.src := fun b hb => Kd.apart I on2 (hf b hb)
    have hh : X.A.in1.handled = none := I.ok.hd hc
    obtain ⟨P1, S1, D1, a1, b1, c1⟩ := Kd.draws I on1 hh (n1 i1 (by simp))
    obtain ⟨P2, S2, D2, a2, b2, c2⟩ := Kd.draws I on2 hh (n2 i2 (by simp))
    have G := GoesN.zip2 (elts := elts) (x1 := kk) (pos := tpos) (zipsep D n1 n2) D1 D2
    obtain ⟨h1, h2, h3, h4, h5⟩ := st
    subst hi
    refine G.stops s (fun s1 => Inv X pins σ H s1) E ⟨h1, h2, h3, a1 _ h4, a2 _ h5⟩ fun h' tk hk htk => ?_
    have nit : ∀ b u, H b = some u → b ∉ [z, TI, TO, i1, i2] := fun b u e q => by rw [(hf b q).1] at e; cases e
    have hk2 : ∀ b o, b ∉ [z, TI, TO, i1, i2] → s.heap.get? b = some o → h'.get? b = some o := fun b o hb e => hk b o (fun q4 => hb (sub4 q4)) e
    refine I.step (g' := s.gens) (d' := s.drawn) (ch := [z, TI, TO, i1, i2]) (fun b hb => ⟨(hf b hb).2.2.2.1, (hf b hb).2.1, (hf b hb).2.2.2.2.1, (hf b hb).2.2.2.2.2⟩) (fun b o _ _ hc e _ => hk2 b o hc e) (fun b o _ _ hc e _ => ⟨o.slots, hk2 b o hc e⟩)
      (fun _ _ _ _ n => n) (fun b o hc e => ⟨o, hk2 b o hc e⟩) (fun _ _ e => e) (fun _ _ _ e => e) (fun b ps e => ⟨#[], by rw [e]; simp⟩) (fun m hm => ?_) (fun b u e => ?_) I.bare
    · obtain ⟨o, es, ep, ho, r⟩ := hm
      exact ⟨o, es, ep, hk2 _ o (fun q => (hf _ q).2.1 rfl) ho, r⟩
    · refine (I.hok b u e).stay (fun c v hc q => hk2 c v ?_ q) (fun _ q => q) fun _ _ q => q
      rcases hc with q | q
      · rw [q]; exact nit b u e
      · exact nit c _ q
  self := fun A i s Q E st h => by
    obtain ⟨h1, _⟩ := st
    exact wpAny_pyIter_zip h1 h
end Mi

namespace Mi
open PySem PySem.Spec PyProof.Rows L2

set_option maxHeartbeats 1000000 in
theorem meets_enum1 {v : Value} {o : Obj} {Hb : Heap → Prop} (B : Begins v o Hb) :
    Meets (Builtin.«enumerate.__new__» ⟨[.type "enumerate", v], []⟩) (fun _ R s => Hb s.heap ∧
      R (.ok (.ret (.ref (s.heap.push o).objs.size))) { s with heap := (s.heap.push o).push { cls := .type "enumerate", data := .fields #[.none, .bool false, .ref s.heap.objs.size, rawInt 0, .none, .none] } }) :=
  .of_wp fun prog w A R s h => by
    obtain ⟨hp, g, d, tk, os⟩ := s
    obtain ⟨h1, h⟩ := h
    have hsub := sub_enumerate
    have q1 : ∀ {A' : Around} {E : Value → Shared → Prop} {Q : Value → Shared → Prop}, Q (.ref hp.objs.size) ⟨hp.push o, g, d, tk, os⟩ → wpAny (model prog w) A' (pyIter v) Q E ⟨hp, g, d, tk, os⟩ :=
      fun q => B.iter prog w _ _ ⟨hp, g, d, tk, os⟩ _ h1 q
    wp_walk using q1
    refine wpAny_stack_any fun st => wpAny_pure ?_
    split
    · rename_i c _ _ _ _ _
      cases (c == Value.type "enumerate")
      · wp_walk using q1
        exact ⟨_, rfl, h⟩
      · wp_walk using q1
        exact ⟨_, rfl, h⟩
    · wp_walk using q1
      exact ⟨_, rfl, h⟩
theorem enum1 {prog : Program} {w : World} {A : Around} {E : Value → Shared → Prop} {s : Shared} {v : Value} {o : Obj} {Hb : Heap → Prop} {Q : Value → Shared → Prop} (B : Begins v o Hb) (h1 : Hb s.heap)
    (h : ∀ h', IsEnum h' (s.heap.objs.size + 1) s.heap.objs.size 0 .none → h'.get? s.heap.objs.size = some o → h'.objs.size = s.heap.objs.size + 2 → (∀ b o, s.heap.get? b = some o → h'.get? b = some o) → Q (.ref (s.heap.objs.size + 1)) { s with heap := h' }) :
    wpAny (model prog w) A (call (.type "enumerate") [v]) Q E s := by
  refine callType_new F.called_enumerate (by decide) (F.typeCall_enumerate_1 _) (F.newCall_enumerate_1 _) (fun obj => F.args_object_init_2 obj _) F.entry_enumerate_new (meets_enum1 B) ⟨h1, ?_⟩
  have hz : (s.heap.push o).objs.size = s.heap.objs.size + 1 := Heap.size_push ..
  show _ ∧ _
  rw [hz]
  have he : IsEnum ((s.heap.push o).push { cls := .type "enumerate", data := .fields #[.none, .bool false, .ref s.heap.objs.size, rawInt 0, .none, .none] }) (s.heap.objs.size + 1) s.heap.objs.size 0 .none := by
    have z := Heap.get?_push_size (s.heap.push o) (o := { cls := .type "enumerate", data := .fields #[.none, .bool false, .ref s.heap.objs.size, rawInt 0, .none, .none] }) rfl
    rw [hz] at z
    exact z
  exact ⟨⟨_, he, rfl⟩, h _ he (Heap.get?_push_of_some _ (Heap.get?_push_size _ B.free)) (by rw [Heap.size_push, hz]) fun b o x => Heap.get?_push_of_some _ (Heap.get?_push_of_some _ x)⟩

def ItE (K : PySem.W.Frag) (k1 : Kd) (xs : List V) : It :=
  ⟨fun i H => k1.on K H xs ∧ i < xs.length, fun i H v H' => ∃ T x, v = .ref T ∧ H T = none ∧ H' = upd H T (.tup [.int (i : Nat), x]) ∧ xs[i]? = some x, fun i H => k1.on K H xs ∧ i = xs.length⟩
def EnSt (k1 : Kd) (e it : Addr) (i : Nat) (h : Heap) : Prop := (∃ old, IsEnum h e it (0 + (i : Int)) old) ∧ k1.st it i h
theorem turn_enum2 {P : Program} {w : World} {K : PySem.W.Frag} {elts : List Expr} {kk : Nat} {tpos : Pos} {k1 : Kd} {xs : List V} {e it : Addr} (D : e ≠ it) : Turn P w K (.Tuple elts kk tpos) (ItE K k1 xs) [e, it] e (EnSt k1 e it) where
  mem := by simp
  obj := fun i h st b hb => by
    obtain ⟨⟨old, h1⟩, h4⟩ := st
    have e' : b = e ∨ b = it := by simpa using hb
    rcases e' with q | q
    · rw [q]; exact ⟨_, h1, fun v z => nomatch z⟩
    · rw [q]; exact Kd.here h4
  keep := fun i h h' st k => by
    obtain ⟨⟨old, h1⟩, h4⟩ := st
    exact ⟨⟨old, k e (by simp) _ h1⟩, Kd.keep h4 fun o z => k it (by simp) o z⟩
  item := by
    intro X hP hw hK hc i pins s σ H E I hf st hg
    subst hP hw hK
    obtain ⟨on1, hi⟩ := hg
    have n1 : ∀ b ∈ [e, it], b ∉ k1.src := fun b hb => Kd.apart I on1 (hf b hb)
    have hh : X.A.in1.handled = none := I.ok.hd hc
    obtain ⟨P1, S1, D1, a1, b1, c1⟩ := Kd.draws I on1 hh (n1 it (by simp))
    have G := GoesN.enumFrom (elts := elts) (x1 := kk) (pos := tpos) 0 D1 e D (fun q => by
      rcases List.mem_cons.mp q with q | q
      · exact D q
      · exact n1 e (by simp) q) List.mem_cons_self
    obtain ⟨⟨old, h1⟩, h4⟩ := st
    have lt : ∀ b ∈ [e, it], b < s.heap.objs.size := fun b hb => by
      have e' : b = e ∨ b = it := by simpa using hb
      rcases e' with q | q
      · rw [q]; exact Heap.lt_size h1
      · rw [q]; obtain ⟨o, e, _⟩ := Kd.here h4; exact Heap.lt_size e
    refine wpAny_mono (G.goes i s (fun v s2 => ∃ x H', Inv X pins σ H' s2 ∧ RelV x v ∧ (ItE X.K k1 xs).yld i H x H' ∧ EnSt k1 e it (i + 1) s2.heap ∧ ∀ b ∈ [e, it], H' b = none) E hi ⟨⟨old, h1⟩, a1 i h4⟩ fun v h' tk hY st' hk htk => ?_) (fun r s1 ⟨v, e, q⟩ => ⟨v, e, q⟩) fun _ _ q => q
    obtain ⟨T, t, x, rfl, hT, p1, ht⟩ := hY
    obtain ⟨x', ex, rx⟩ := c1 i x p1
    have hn : H T = none := I.hok.fresh hT
    rw [Int.zero_add] at ht
    have new : ObjOk X.prog X.w (upd H T (.tup [.int (i : Nat), x'])) h' T (.tup [.int (i : Nat), x']) := ⟨by show 2 ≤ sizeLine; decide, [.int (i : Nat) t, x], .cons ⟨t, rfl⟩ (.cons rx .nil), ht⟩
    have I1 : Inv X pins σ (upd H T (.tup [.int (i : Nat), x'])) { s with heap := h', toks := tk } := I.turnedNew (ch := [e, it]) (fun b ob hb q => hk b ob hb q) hf hT new
    refine ⟨.ref T, _, I1, rfl, ⟨T, x', rfl, hn, rfl, ex⟩, ⟨st'.1, b1 _ _ st'.2⟩, fun b hb => ?_⟩
    rw [upd_ne (Nat.ne_of_lt (Nat.lt_of_lt_of_le (lt b hb) hT))]
    exact (hf b hb).1
  done := by
    intro X hP hw hK hc i pins s σ H E I hf st hg
    subst hP hw hK
    obtain ⟨on1, hi⟩ := hg
    have n1 : ∀ b ∈ [e, it], b ∉ k1.src := fun b hb => Kd.apart I on1 (hf b hb)
    have hh : X.A.in1.handled = none := I.ok.hd hc
    obtain ⟨P1, S1, D1, a1, b1, c1⟩ := Kd.draws I on1 hh (n1 it (by simp))
    have G := GoesN.enumFrom (elts := elts) (x1 := kk) (pos := tpos) 0 D1 e D (fun q => by
      rcases List.mem_cons.mp q with q | q
      · exact D q
      · exact n1 e (by simp) q) List.mem_cons_self
    obtain ⟨h1, h4⟩ := st
    subst hi
    refine G.stops s (fun s1 => Inv X pins σ H s1) E ⟨h1, a1 _ h4⟩ fun h' tk hk2 htk => ?_
    have nit : ∀ b u, H b = some u → b ∉ [e, it] := fun b u e q => by rw [(hf b q).1] at e; cases e
    refine I.step (g' := s.gens) (d' := s.drawn) (ch := [e, it]) (fun b hb => ⟨(hf b hb).2.2.2.1, (hf b hb).2.1, (hf b hb).2.2.2.2.1, (hf b hb).2.2.2.2.2⟩) (fun b o _ _ hc e _ => hk2 b o hc e) (fun b o _ _ hc e _ => ⟨o.slots, hk2 b o hc e⟩)
      (fun _ _ _ _ n => n) (fun b o hc e => ⟨o, hk2 b o hc e⟩) (fun _ _ e => e) (fun _ _ _ e => e) (fun b ps e => ⟨#[], by rw [e]; simp⟩) (fun m hm => ?_) (fun b u e => ?_) I.bare
    · obtain ⟨o, es, ep, ho, r⟩ := hm
      exact ⟨o, es, ep, hk2 _ o (fun q => (hf _ q).2.1 rfl) ho, r⟩
    · refine (I.hok b u e).stay (fun c v hc q => hk2 c v ?_ q) (fun _ q => q) fun _ _ q => q
      rcases hc with q | q
      · rw [q]; exact nit b u e
      · exact nit c _ q
  self := fun A i s Q E st h => by
    obtain ⟨⟨_, h1⟩, _⟩ := st
    exact wpAny_pyIter_enum h1 h

inductive Sq (K : PySem.W.Frag) (H : Hp) : V → List V → Prop
  | ls {a : Addr} {xs : List V} : SqL K H a xs → Sq K H (.ref a) xs
  | tp {a : Addr} {xs : List V} : SqT K H a xs → Sq K H (.ref a) xs
  | sg {z : Str} : Sq K H (.str z) (sgV z)
theorem Sq.kd {K : PySem.W.Frag} {H : Hp} {v : V} {xs : List V} {u : Value} (h : Sq K H v xs) (r : RelV v u) : ∃ k : Kd, k.val = u ∧ k.on K H xs := by
  cases h with
  | ls h => cases r; exact ⟨.ls _, rfl, h⟩
  | tp h => cases r; exact ⟨.tp _, rfl, h⟩
  | sg => obtain ⟨t, rfl⟩ := r; exact ⟨.sg _ t, rfl, rfl⟩
def iZ2 (K : PySem.W.Frag) (ta : TA) : TI := fun σ H R => ta σ H fun vs H1 => ∃ B v w xs ys, Le B H1 ∧ vs = [v, w] ∧ Sq K B v xs ∧ Sq K B w ys ∧ ∀ k1 k2 : Kd, k1.on K B xs → k2.on K B ys → R (ItZ K k1 k2 xs ys) H1
def iE2 (K : PySem.W.Frag) (ta : TA) : TI := fun σ H R => ta σ H fun vs H1 => ∃ B v xs, Le B H1 ∧ vs = [v] ∧ Sq K B v xs ∧ ∀ k1 : Kd, k1.on K B xs → R (ItE K k1 xs) H1
section
variable {X : Cx}
theorem pi_z2 {e e2 : Expr} {ta : TA} {p pos tpos : Pos} {elts : List Expr} {kk : Nat} (hm : X.mg "zip" = none) (ha : PA X [e, e2] ta) (hg : Gl X "zip")
    (hs : starEach [e, e2] X.env = [(false, eval e X.env), (false, eval e2 X.env)]) (hs2 : starEach [e2] X.env = [(false, eval e2 X.env)]) :
    PI X (.Tuple elts kk tpos) (.Call (.Name "zip" p) [e, e2] [] pos) (iZ2 X.K ta) := by
  refine ⟨fun pins s σ H R I h => ?_⟩
  refine Call_ (ld_blt I hg hm boot_zip (PyProof.Rows.callWith_type1 (thn (ha.run pos pins s σ H _ I h) fun us s1 ⟨vs, H1, I1, r1, q1⟩ => ?_) (by rw [hs, hs2]) (by rw [hs2]; rfl)))
  obtain ⟨B, v, w, xs, ys, bh, ex, h1, h2, q⟩ := q1
  subst ex
  cases r1 with
  | cons ra rr =>
    cases rr with
    | cons rb rr =>
      cases rr
      obtain ⟨k1, e1, on1⟩ := h1.kd ra
      obtain ⟨k2, e2', on2⟩ := h2.kd rb
      subst e1 e2'
      obtain ⟨Hb1, B1, g1⟩ := Kd.begins I1 (Kd.on_mono bh on1)
      obtain ⟨Hb2, B2, g2⟩ := Kd.begins I1 (Kd.on_mono bh on2)
      refine zip_begins2 B1 B2 g1 g2 fun h' c1 c2 c3 c4 c5 c6 c7 => wpAny_pyIter_zip c1 ?_
      have I2 : Inv X pins σ H1 { s1 with heap := h' } := I1.kept (t' := s1.toks) c7
      refine ⟨s1.heap.objs.size + 4, [s1.heap.objs.size + 4, s1.heap.objs.size + 2, s1.heap.objs.size + 3, s1.heap.objs.size, s1.heap.objs.size + 1], _, _, H1, rfl, I2, turn_zip2 (k1 := k1) (k2 := k2) (xs := xs) (ys := ys) ?_, ⟨c1, c2, ⟨_, _, c3⟩, Kd.init c4, Kd.init c5⟩, fun b hb => ?_,
        q k1 k2 on1 on2⟩
      · refine ⟨?_, ?_, ?_, ?_, ?_, ?_, ?_, ?_, ?_, ?_⟩ <;> exact fun z => by
          have z' : (_ : Nat) = _ := z
          omega
      · have hle : s1.heap.objs.size ≤ b := by
          have e' : b = s1.heap.objs.size + 4 ∨ b = s1.heap.objs.size + 2 ∨ b = s1.heap.objs.size + 3 ∨ b = s1.heap.objs.size ∨ b = s1.heap.objs.size + 1 := by simpa using hb
          rcases e' with q | q | q | q | q
          · rw [q]; exact Nat.le_add_right _ _
          · rw [q]; exact Nat.le_add_right _ _
          · rw [q]; exact Nat.le_add_right _ _
          · rw [q]; exact Nat.le_refl _
          · rw [q]; exact Nat.le_add_right _ _
        exact I1.fpOk hle (I1.hok.fresh hle)
theorem pi_e2 {e : Expr} {ta : TA} {p pos tpos : Pos} {elts : List Expr} {kk : Nat} (hm : X.mg "enumerate" = none) (ha : PA X [e] ta) (hg : Gl X "enumerate") (hs : starEach [e] X.env = [(false, eval e X.env)]) :
    PI X (.Tuple elts kk tpos) (.Call (.Name "enumerate" p) [e] [] pos) (iE2 X.K ta) := by
  refine ⟨fun pins s σ H R I h => ?_⟩
  refine Call_ (ld_blt I hg hm boot_enumerate (PyProof.Rows.callWith_type1 (thn (ha.run pos pins s σ H _ I h) fun us s1 ⟨vs, H1, I1, r1, q1⟩ => ?_) hs rfl))
  obtain ⟨B, v, xs, bh, ex, h1, q⟩ := q1
  subst ex
  cases r1 with
  | cons ra rr =>
    cases rr
    obtain ⟨k1, e1, on1⟩ := h1.kd ra
    subst e1
    obtain ⟨Hb1, B1, g1⟩ := Kd.begins I1 (Kd.on_mono bh on1)
    refine enum1 B1 g1 fun h' c1 c2 c3 c4 => wpAny_pyIter_enum c1 ?_
    have I2 : Inv X pins σ H1 { s1 with heap := h' } := I1.kept (t' := s1.toks) c4
    refine ⟨s1.heap.objs.size + 1, [s1.heap.objs.size + 1, s1.heap.objs.size], _, _, H1, rfl, I2, turn_enum2 (k1 := k1) (xs := xs) (Nat.succ_ne_self _), ⟨⟨_, by rw [show (0 : Int) + ((0 : Nat) : Int) = 0 from rfl]; exact c1⟩, Kd.init c2⟩, fun b hb => ?_, q k1 on1⟩
    have e' : b = s1.heap.objs.size + 1 ∨ b = s1.heap.objs.size := by simpa using hb
    have hle : s1.heap.objs.size ≤ b := by
      rcases e' with z | z
      · rw [z]; exact Nat.le_add_right _ _
      · rw [z]; exact Nat.le_refl _
    exact I1.fpOk hle (I1.hok.fresh hle)
def iAny (K : PySem.W.Frag) (tl : TE) : TI := fun σ H R => tl σ H fun x H1 => (∃ a xs, x = .ref a ∧ SqL K H1 a xs ∧ R (Itl K a) H1) ∨ (∃ a xs, x = .ref a ∧ SqT K H1 a xs ∧ R (Itt K a) H1) ∨ (∃ z, x = .str z ∧ R (Its z) H1) ∨ ∃ d o kvs, x = .ref d ∧ H1 d = some (.frz o (.dK kvs)) ∧ R (Itk d o kvs) H1
theorem pi_any {tg l : Expr} {tl : TE} (hl : PE X l tl) : PI X tg l (iAny X.K tl) := by
  refine ⟨fun pins s σ H R I h => ?_⟩
  refine thn (hl.run pins s σ H _ I h) fun v s1 ⟨x, H1, I1, r1, q1⟩ => ?_
  rcases q1 with ⟨a, xs, e, hq, q⟩ | ⟨a, xs, e, hq, q⟩ | ⟨z, e, q⟩ | ⟨d, o, kvs, e, hd, q⟩
  · subst e
    cases r1
    obtain ⟨its, rv, p, hz⟩ := I1.list hq
    exact wpAny_pyIter_list p.isList (pi_one (tk := s1.toks) I1 _ (turn_list a _) ⟨_, Heap.get?_push_size _ rfl, rfl, rfl⟩ q)
  · subst e
    cases r1
    obtain ⟨its, rv, p, hz⟩ := I1.tuple hq
    exact wpAny_pyIter_tuple (show s1.heap.IsTuple a its.toArray from p) (pi_one (tk := s1.toks) I1 _ (turn_tuple a _) ⟨_, Heap.get?_push_size _ rfl, rfl, rfl⟩ q)
  · subst e
    obtain ⟨t, rfl⟩ := r1
    cases ha : z.cps.all (· < 128)
    · exact wpAny_pyIter_wide ha (pi_one (tk := s1.toks) I1 _ (turn_str _ z t "str_iterator" (.inr rfl)) ⟨_, Heap.get?_push_size _ rfl, rfl, rfl⟩ q)
    · exact wpAny_pyIter_ascii ha (pi_one (tk := s1.toks) I1 _ (turn_str _ z t "str_ascii_iterator" (.inl rfl)) ⟨_, Heap.get?_push_size _ rfl, rfl, rfl⟩ q)
  · subst e
    cases r1
    obtain ⟨hs, hgd, hx, es, ep, vs, hdt, hsz, kv, hm⟩ := I1.frzK hd
    refine iter_keys hs hgd hx hdt (pi_one (tk := s1.toks) I1 _ (turn_keys _ hdt) ⟨_, Heap.get?_push_size _ rfl, rfl, ?_⟩ q)
    rw [hsz] <;> rfl
end

def sgD (z : Str) : List Da := z.cps.toList.map fun c => PyData.str ⟨#[c]⟩
theorem rep_sg {K : PySem.W.Frag} {B : Hp} (z : Str) : RepAll K B (sgV z) (sgD z) := by
  unfold sgV sgD
  generalize z.cps.toList = l
  induction l with
  | nil => exact .nil
  | cons c l ih => exact .cons (.str _) ih
def itemsD : Da → R (List Da)
  | .list ds => .ok ds
  | .tuple ds => .ok ds
  | .str z => .ok (sgD z)
  | .dict kds => .ok (kds.map (·.1))
  | _ => .no
theorem yl_list {K : PySem.W.Frag} {B : Hp} {a : Addr} {xs : List V} {ds : List Da} (h : SqL K B a xs) (r : RepAll K B xs ds) : Yl true K (Itl K a) B ds where
  go := fun i H hi l => by
    obtain ⟨v, e, _⟩ := r.get (List.getElem?_eq_getElem hi)
    exact ⟨xs, v, l.sl h, e⟩
  st := fun H l => ⟨xs, l.sl h, Nat.le_of_eq r.length⟩
  yd := fun i H x H' d B2 e b0 bh ⟨e1, y⟩ => by
    subst e1
    obtain ⟨v, e2, hv⟩ := r.get e
    have e3 := y xs ((b0.trans bh).sl h)
    rw [e2] at e3
    cases e3
    exact ⟨B2, Stp.refl bh, hv.mono b0⟩
theorem yl_tup {K : PySem.W.Frag} {B : Hp} {a : Addr} {xs : List V} {ds : List Da} (h : SqT K B a xs) (r : RepAll K B xs ds) : Yl true K (Itt K a) B ds where
  go := fun i H hi l => by
    obtain ⟨v, e, _⟩ := r.get (List.getElem?_eq_getElem hi)
    exact ⟨xs, v, l.st h, e⟩
  st := fun H l => ⟨xs, l.st h, Nat.le_of_eq r.length⟩
  yd := fun i H x H' d B2 e b0 bh ⟨e1, y⟩ => by
    subst e1
    obtain ⟨v, e2, hv⟩ := r.get e
    have e3 := y xs ((b0.trans bh).st h)
    rw [e2] at e3
    cases e3
    exact ⟨B2, Stp.refl bh, hv.mono b0⟩
theorem sgD_len (z : Str) : (sgD z).length = z.cps.size := by
  unfold sgD
  rw [List.length_map, Array.length_toList]
theorem yl_str {K : PySem.W.Frag} {B : Hp} {z : Str} : Yl true K (Its z) B (sgD z) where
  go := fun i H hi l => by
    rw [sgD_len] at hi
    exact hi
  st := fun H l => Nat.le_of_eq (sgD_len z).symm
  yd := fun i H x H' d B2 e b0 bh ⟨e1, c, ec, ex⟩ => by
    subst e1 ex
    unfold sgD at e
    rw [List.getElem?_map, Array.getElem?_toList, ec] at e
    cases e
    exact ⟨B2, Stp.refl bh, .str _⟩
theorem kv_get {K : PySem.W.Frag} {B : Hp} : ∀ {kvs : List (Key × V)} {kds : List (Da × Da)} {i : Nat} {k : Key} {v : V}, RepKV K B kvs kds → kvs[i]? = some (k, v) → ∃ d, kds[i]? = some (kD k, d) ∧ Rep K B v d
  | _, _, _, _, _, .nil, e => by simp at e
  | _, _, 0, _, _, .cons h _, e => by
    simp at e
    obtain ⟨rfl, rfl⟩ := e
    exact ⟨_, rfl, h⟩
  | _, _, i + 1, k, v, .cons _ t, e => by
    obtain ⟨d, h1, h2⟩ := kv_get (i := i) (k := k) (v := v) t (by simpa using e)
    exact ⟨d, by simpa using h1, h2⟩
theorem rep_k {K : PySem.W.Frag} {B : Hp} : ∀ k : Key, Rep K B (kV k) (kD k)
  | .inl i => .int i
  | .inr x => .str x
theorem yl_dict {K : PySem.W.Frag} {B : Hp} {d : Addr} {o : Obj} {kvs : List (Key × V)} {kds : List (Da × Da)} (h : B d = some (.frz o (.dK kvs))) (r : RepKV K B kvs kds) : Yl true K (Itk d o kvs) B (kds.map (·.1)) where
  go := fun i H hi l => ⟨l _ _ h, by rw [List.length_map, ← r.length] at hi; exact hi⟩
  st := fun H l => ⟨l _ _ h, by rw [List.length_map]; exact Nat.le_of_eq r.length⟩
  yd := fun i H x H' e B2 ee b0 bh ⟨e1, k, v, ek, ex⟩ => by
    subst e1 ex
    obtain ⟨d', e2, _⟩ := kv_get r ek
    rw [List.getElem?_map, e2] at ee
    cases ee
    exact ⟨B2, Stp.refl bh, rep_k k⟩
section
variable {cls : String → Value} {X : Cx} {W : WX}
def iD (f : Env → R Da) : Env → R (List Da) := fun r => (f r).bind itemsD
theorem di_any {tg e : Expr} {f : Env → R Da} (he : DE cls X W e f) : DI true cls X W tg e (iD f) := by
  obtain ⟨t, pt, h⟩ := he.run
  refine ⟨_, pi_any pt, fun F B H σ r Q k p => h F B H σ r _ k (p.bind.imp fun d B' H' s q v hv => ?_)⟩
  cases d with
  | list ds =>
    cases hv with
    | lst hs hr => exact .inl ⟨_, _, rfl, s.bh.sl hs, q B' H' (Stp.refl s.bh) _ (yl_list hs hr)⟩
  | tuple ds =>
    cases hv with
    | tup hs hr => exact .inr (.inl ⟨_, _, rfl, s.bh.st hs.sq, q B' H' (Stp.refl s.bh) _ (yl_tup hs.sq hr)⟩)
  | str z =>
    cases hv
    exact .inr (.inr (.inl ⟨z, rfl, q B' H' (Stp.refl s.bh) _ yl_str⟩))
  | dict kds =>
    cases hv with
    | dct hs hr => exact .inr (.inr (.inr ⟨_, _, _, rfl, s.bh _ _ hs, q B' H' (Stp.refl s.bh) _ (yl_dict hs hr)⟩))
  | none => exact q.elim
  | bool b => exact q.elim
  | int b => exact q.elim
def seqD : Da → R (List Da)
  | .list ds => .ok ds
  | .tuple ds => .ok ds
  | .str z => .ok (sgD z)
  | _ => .no
theorem sq_of {K : PySem.W.Frag} {B : Hp} {v : V} {d : Da} {ds : List Da} (h : Rep K B v d) (e : seqD d = .ok ds) : ∃ xs, Sq K B v xs ∧ RepAll K B xs ds := by
  cases h with
  | lst hs hr =>
    cases e
    exact ⟨_, .ls hs, hr⟩
  | tup hs hr =>
    cases e
    exact ⟨_, .tp hs.sq, hr⟩
  | str z =>
    cases e
    exact ⟨_, .sg, rep_sg z⟩
  | non => cases e
  | bl b => cases e
  | int b => cases e
  | dct a b => cases e
theorem Sq.mono {K : PySem.W.Frag} {H H' : Hp} {v : V} {xs : List V} (h : Sq K H v xs) (e : Le H H') : Sq K H' v xs := by
  cases h with
  | ls h => exact .ls (e.sl h)
  | tp h => exact .tp (e.st h)
  | sg => exact .sg
def zipD (f g : Da) : R (List Da) := (seqD f).bind fun xs => (seqD g).bind fun ys => .ok ((xs.zip ys).map fun p => .tuple [p.1, p.2])
def iZip (f g : Env → R Da) : Env → R (List Da) := fun r => (f r).bind fun x => (g r).bind fun y => zipD x y
def enumF (i : Nat) : List Da → List Da
  | [] => []
  | x :: xs => .tuple [.int (i : Nat), x] :: enumF (i + 1) xs
def enumD (f : Da) : R (List Da) := (seqD f).bind fun xs => .ok (enumF 0 xs)
def iEnu (f : Env → R Da) : Env → R (List Da) := fun r => (f r).bind enumD
theorem yl_zip {K : PySem.W.Frag} {B : Hp} {k1 k2 : Kd} {xs ys : List V} {ds es : List Da} (h1 : k1.on K B xs) (h2 : k2.on K B ys) (r1 : RepAll K B xs ds) (r2 : RepAll K B ys es) : Yl false K (ItZ K k1 k2 xs ys) B ((ds.zip es).map fun p => .tuple [p.1, p.2]) where
  go := fun i H hi l => ⟨Kd.on_mono l h1, Kd.on_mono l h2, by
    rw [List.length_map, List.length_zip, ← r1.length, ← r2.length] at hi
    exact hi⟩
  st := fun H l => ⟨Kd.on_mono l h1, Kd.on_mono l h2, by rw [List.length_map, List.length_zip, ← r1.length, ← r2.length]⟩
  yd := fun i H x H' d B2 e b0 bh ⟨T, x1, y1, ex, hn, eH, e1, e2⟩ => by
    subst ex eH
    obtain ⟨d1, f1, q1⟩ := r1.get' e1
    obtain ⟨d2, f2, q2⟩ := r2.get' e2
    have ez : (ds.zip es)[i]? = some (d1, d2) := by rw [List.getElem?_zip_eq_some]; exact ⟨f1, f2⟩
    rw [List.getElem?_map, ez] at e
    cases e
    have l : Le B2 (upd B2 T (.tup [x1, y1])) := Le.new (bh.back hn)
    exact ⟨_, Stp.new bh hn, _, _, rfl, .inl (.inl upd_same), .cons ((q1.mono b0).mono l) (.cons ((q2.mono b0).mono l) .nil)⟩
theorem enumF_len : ∀ (i : Nat) (ds : List Da), (enumF i ds).length = ds.length
  | _, [] => rfl
  | i, d :: ds => by
    show (enumF (i + 1) ds).length + 1 = ds.length + 1
    rw [enumF_len (i + 1) ds]
theorem enumF_get : ∀ (ds : List Da) (j i : Nat), (enumF j ds)[i]? = (ds[i]?).map fun d => PyData.tuple [.int ((j + i : Nat) : Int), d]
  | [], j, i => by simp [enumF]
  | d :: ds, j, 0 => by simp [enumF]
  | d :: ds, j, i + 1 => by
    show (enumF (j + 1) ds)[i]? = _
    rw [enumF_get ds (j + 1) i, show j + 1 + i = j + (i + 1) by omega]
    simp
theorem yl_enum {K : PySem.W.Frag} {B : Hp} {k1 : Kd} {xs : List V} {ds : List Da} (h1 : k1.on K B xs) (r1 : RepAll K B xs ds) : Yl false K (ItE K k1 xs) B (enumF 0 ds) where
  go := fun i H hi l => ⟨Kd.on_mono l h1, by rw [enumF_len, ← r1.length] at hi; exact hi⟩
  st := fun H l => ⟨Kd.on_mono l h1, by rw [enumF_len, ← r1.length]⟩
  yd := fun i H x H' d B2 e b0 bh ⟨T, x1, ex, hn, eH, e1⟩ => by
    subst ex eH
    obtain ⟨d1, f1, q1⟩ := r1.get' e1
    rw [enumF_get, f1, Nat.zero_add] at e
    cases e
    have l : Le B2 (upd B2 T (.tup [.int (i : Nat), x1])) := Le.new (bh.back hn)
    exact ⟨_, Stp.new bh hn, _, _, rfl, .inl (.inl upd_same), .cons (.int _) (.cons ((q1.mono b0).mono l) .nil)⟩
theorem di_zip {e e2 : Expr} {f g : Env → R Da} {p pos tpos : Pos} {elts : List Expr} {kk : Nat} (hm : X.mg "zip" = none) (ha : DE cls X W e f) (hb : DE cls X W e2 g) (hg : Gl X "zip" := by rfl)
    (hs : starEach [e, e2] X.env = [(false, eval e X.env), (false, eval e2 X.env)] := by rfl) (hs2 : starEach [e2] X.env = [(false, eval e2 X.env)] := by rfl) : DI false cls X W (.Tuple elts kk tpos) (.Call (.Name "zip" p) [e, e2] [] pos) (iZip f g) := by
  obtain ⟨ta, pa, ha⟩ := ha.run
  obtain ⟨tb, pb, hb⟩ := hb.run
  refine ⟨_, pi_z2 hm (pa_cons pa (pa_cons pb pa_nil (by rw [hs2]; rfl)) (by rw [hs, hs2])) hg hs hs2, fun F B H σ r Q k p => ?_⟩
  refine ha F B H σ r _ k (p.bind.imp fun d1 B1 H1 s1 p1 v hv => hb F B1 H1 σ r _ (k.stp s1) (p1.bind.imp fun d2 B2 H2 s2 p2 w hw => ?_))
  unfold zipD at p2
  cases e1 : seqD d1 with
  | no => rw [e1] at p2; exact p2.elim
  | er c => rw [e1] at p2; cases d1 <;> cases e1
  | ok ds =>
    rw [e1, R.ok_bind] at p2
    cases e2' : seqD d2 with
    | no => rw [e2'] at p2; exact p2.elim
    | er c => rw [e2'] at p2; cases d2 <;> cases e2'
    | ok es =>
      rw [e2', R.ok_bind] at p2
      obtain ⟨xs, q1, r1⟩ := sq_of (hv.mono s2.gr.1) e1
      obtain ⟨ys, q2, r2⟩ := sq_of hw e2'
      exact ⟨B2, v, w, xs, ys, s2.bh, rfl, q1, q2, fun k1 k2 o1 o2 => p2 B2 H2 (Stp.refl s2.bh) _ (yl_zip o1 o2 r1 r2)⟩
theorem di_enum {e : Expr} {f : Env → R Da} {p pos tpos : Pos} {elts : List Expr} {kk : Nat} (hm : X.mg "enumerate" = none) (ha : DE cls X W e f) (hg : Gl X "enumerate" := by rfl) (hs : starEach [e] X.env = [(false, eval e X.env)] := by rfl) :
    DI false cls X W (.Tuple elts kk tpos) (.Call (.Name "enumerate" p) [e] [] pos) (iEnu f) := by
  obtain ⟨ta, pa, ha⟩ := ha.run
  refine ⟨_, pi_e2 hm (pa_cons pa pa_nil (by rw [hs]; rfl)) hg hs, fun F B H σ r Q k p => ?_⟩
  refine ha F B H σ r _ k (p.bind.imp fun d1 B1 H1 s1 p2 v hv => ?_)
  unfold enumD at p2
  cases e1 : seqD d1 with
  | no => rw [e1] at p2; exact p2.elim
  | er c => rw [e1] at p2; cases d1 <;> cases e1
  | ok ds =>
    rw [e1, R.ok_bind] at p2
    obtain ⟨xs, q1, r1⟩ := sq_of hv e1
    exact ⟨B1, v, xs, s1.bh, rfl, q1, fun k1 o1 => p2 B1 H1 (Stp.refl s1.bh) _ (yl_enum o1 r1)⟩
def rgD (a b : Int) : R (List Da) := if -1000000 ≤ a ∧ a ≤ 1000000 ∧ -1000000 ≤ b ∧ b ≤ 1000000 then .ok ((List.range (b - a).toNat).map fun i => .int (a + (i : Nat))) else .no
def iR1 (f : Env → R Da) : Env → R (List Da) := fun r => (f r).bind fun d => match d with
  | .int n => rgD 0 n
  | _ => .no
theorem yl_range {K : PySem.W.Frag} {B : Hp} {lo : Int} {n : Nat} : Yl true K (Itr lo n) B ((List.range n).map fun i => PyData.int (lo + (i : Nat))) where
  go := fun i H hi l => by
    rw [List.length_map, List.length_range] at hi
    exact hi
  st := fun H l => by
    rw [List.length_map, List.length_range]
    exact Nat.le_refl _
  yd := fun i H x H' d B2 e b0 bh ⟨e1, e2⟩ => by
    subst e1 e2
    rw [List.getElem?_map] at e
    cases q : (List.range n)[i]? with
    | none => rw [q] at e; cases e
    | some j =>
      rw [q] at e
      cases e
      obtain ⟨h1, h2⟩ := List.getElem?_eq_some_iff.mp q
      rw [List.getElem_range] at h2
      subst h2
      exact ⟨B2, Stp.refl bh, .int _⟩
theorem di_r1 {tg e : Expr} {f : Env → R Da} {p pos : Pos} (hm : X.mg "range" = none) (ha : DE cls X W e f) (hg : Gl X "range" := by rfl) (hs : starEach [e] X.env = [(false, eval e X.env)] := by rfl) :
    DI true cls X W tg (.Call (.Name "range" p) [e] [] pos) (iR1 f) := by
  obtain ⟨ta, pa, ha⟩ := ha.run
  refine ⟨_, pi_range1 hg hm (pa_cons pa pa_nil (by rw [hs]; rfl)) hs, fun F B H σ r Q k p => ?_⟩
  refine ha F B H σ r _ k (p.bind.imp fun d1 B1 H1 s1 p2 v hv => ?_)
  cases d1 with
  | int n =>
    cases hv
    have p2 : Pw cls B1 H1 σ W (WfI true X.K Q) (if (-1000000 ≤ (0 : Int) ∧ (0 : Int) ≤ 1000000 ∧ -1000000 ≤ n ∧ n ≤ 1000000) then .ok ((List.range (n - 0).toNat).map fun i => PyData.int (0 + (i : Nat))) else .no) := p2
    split at p2
    · rename_i hb
      have e0 : (n - 0).toNat = n.toNat := by rw [Int.sub_zero]
      rw [e0] at p2
      exact ⟨n, rfl, by omega, by omega, p2 B1 H1 (Stp.refl s1.bh) _ yl_range⟩
    · exact p2.elim
  | none => exact p2.elim
  | bool b => exact p2.elim
  | str b => exact p2.elim
  | tuple b => exact p2.elim
  | list b => exact p2.elim
  | dict b => exact p2.elim
end
end Mi

namespace Mi
open PySem PySem.Spec PyProof.Rows L2

section
variable {X : Cx}
theorem opD {fm : Value → Value → Sem Value} {g : Da → Da → R Da} (h : ∀ (pins : List (Addr × Obj)) (s : Shared) (σ : L2.St) (B H : Hp) (x y : V) (v u : Value) (dx dy d : Da) (Q : VK), Inv X pins σ H s → RelV x v → RelV y u → Le B H → Rr X.K B H x dx → Rr X.K B H y dy → g dx dy = .ok d →
    (∀ B' H' v, Stp B H B' H' → Rep X.K B' v d → Q v H') → wpAny (model X.prog X.w) X.A (fm v u) (EP X pins σ Q) X.xe s) : OpR X fm (rD X.K g) := by
  intro pins s σ H x y v u Q I rx ry ⟨B, dx, dy, d, b, hx, hy, e, q⟩
  exact h pins s σ B H x y v u dx dy d Q I rx ry b hx hy e q

def dInt (g : Int → Int → R Da) : Da → Da → R Da
  | .int i, .int j => g i j
  | _, _ => .no
theorem op_int {fm : Value → Value → Sem Value} {C : Int → Int → Prop} {gv : Int → Int → V} {g : Int → Int → R Da} (h : OpR X fm (rI C gv)) (hg : ∀ i j d, g i j = .ok d → C i j ∧ ∀ B, Rep X.K B (gv i j) d) : OpR X fm (rD X.K (dInt g)) :=
  opD fun pins s σ B H x y v u dx dy d Q I rx ry b hx hy e q => by
    cases dx with
    | int i =>
      cases dy with
      | int j =>
        obtain ⟨c, hr⟩ := hg i j d e
        exact h pins s σ H x y v u Q I rx ry ⟨i, j, hx.int, hy.int, c, q B H _ (Stp.refl b) (hr B)⟩
      | none => cases e
      | bool _ => cases e
      | str _ => cases e
      | tuple _ => cases e
      | list _ => cases e
      | dict _ => cases e
    | none => cases e
    | bool _ => cases e
    | str _ => cases e
    | tuple _ => cases e
    | list _ => cases e
    | dict _ => cases e
theorem op_int0 {fm : Value → Value → Sem Value} {gv : Int → Int → V} {g : Int → Int → R Da} (h : OpR X fm (rI0 gv)) (hg : ∀ i j d, g i j = .ok d → ∀ B, Rep X.K B (gv i j) d) : OpR X fm (rD X.K (dInt g)) :=
  op_int (C := fun _ _ => True) (fun pins s σ H x y v u Q I rx ry ⟨i, j, a, b, _, q⟩ => h pins s σ H x y v u Q I rx ry ⟨i, j, a, b, q⟩) fun i j d e => ⟨trivial, hg i j d e⟩
def dSub : Da → Da → R Da := dInt fun i j => .ok (.int (i - j))
def dFdiv : Da → Da → R Da := dInt fun i j => if 0 < j ∧ j < 1073741824 then .ok (.int (i / j)) else .no
def dMod : Da → Da → R Da := dInt fun i j => if 0 < j then .ok (.int (i % j)) else .no
abbrev powC (i j : Int) : Prop := 0 ≤ j ∧ (Builtin.Int.intBits i : Int) * j ≤ 2 ^ 27
theorem op_powB : OpR X (binaryOp .Pow) (rI powC fun i j => .int (i ^ j.toNat)) := opI fun _ _ _ _ _ _ _ hc q => pow_int hc.1 hc.2 q
def dPow : Da → Da → R Da := dInt fun i j => if powC i j then .ok (.int (i ^ j.toNat)) else .no
def dMulI : Da → Da → R Da := dInt fun i j => if (-(2 ^ 64) < i ∧ i < 2 ^ 64) ∨ (-(2 ^ 64) < j ∧ j < 2 ^ 64) then .ok (.int (i * j)) else .no
theorem o_sub : OpR X (binaryOp .Sub) (rD X.K dSub) := op_int0 op_sub fun i j d e B => by
  cases e
  exact .int _
theorem o_fdiv : OpR X (binaryOp .FloorDiv) (rD X.K dFdiv) := op_int op_fdiv fun i j d e => by
  by_cases c : 0 < j ∧ j < 1073741824
  · rw [if_pos c] at e
    cases e
    exact ⟨c, fun B => .int _⟩
  · rw [if_neg c] at e
    cases e
theorem o_mod : OpR X (binaryOp .Mod) (rD X.K dMod) := op_int op_mod fun i j d e => by
  by_cases c : 0 < j
  · rw [if_pos c] at e
    cases e
    exact ⟨c, fun B => .int _⟩
  · rw [if_neg c] at e
    cases e
theorem o_pow : OpR X (binaryOp .Pow) (rD X.K dPow) := op_int op_powB fun i j d e => by
  by_cases c : powC i j
  · rw [if_pos c] at e
    cases e
    exact ⟨c, fun B => .int _⟩
  · rw [if_neg c] at e
    cases e
theorem o_mulI : OpR X (binaryOp .Mult) (rD X.K dMulI) := op_int op_mul fun i j d e => by
  by_cases c : (-(2 ^ 64) < i ∧ i < 2 ^ 64) ∨ (-(2 ^ 64) < j ∧ j < 2 ^ 64)
  · rw [if_pos c] at e
    cases e
    exact ⟨c, fun B => .int _⟩
  · rw [if_neg c] at e
    cases e
def dAdd : Da → Da → R Da
  | .int i, .int j => .ok (.int (i + j))
  | .str x, .str y => if x.length + y.length ≤ 100000 then .ok (.str (x ++ y)) else .no
  | .list xs, .list ys => if xs.length + ys.length ≤ 100000 then .ok (.list (xs ++ ys)) else .no
  | .tuple xs, .tuple ys => if xs.length + ys.length ≤ 100000 then .ok (.tuple (xs ++ ys)) else .no
  | _, _ => .no
theorem catL {pins : List (Addr × Obj)} {s : Shared} {σ : L2.St} {H : Hp} {a b : Addr} {xs zs : List V} {Q : VK} (I : Inv X pins σ H s) (ha : SqL X.K H a xs) (hb : SqL X.K H b zs) (hz : xs.length + zs.length ≤ sizeLine) (q : ∀ p, H p = none → Q (.ref p) (upd H p (.lst (xs ++ zs)))) :
    wpAny (model X.prog X.w) X.A (binaryOp .Add (.ref a) (.ref b)) (EP X pins σ Q) X.xe s := by
  obtain ⟨its, r1, ⟨⟨c1, d1, t1, s1⟩, n1, e1, hc1, hd1, ht1⟩, _⟩ := I.list ha
  obtain ⟨its2, r2, ⟨⟨c2, d2, t2, s2⟩, n2, e2, hc2, hd2, ht2⟩, _⟩ := I.list hb
  simp only at hc1 ht1 hc2 ht2
  subst hc1 ht1 hc2 ht2
  have l1 := r1.length
  have l2 := r2.length
  refine concat_meets ⟨_, e1, rfl⟩ ⟨_, e2, rfl⟩ noFill_list_add seq_list_add PySem.F.slot_list_add PySem.F.entry_list_add (PySem.F.args_list_add_2 _ _) (list_addW a b its.toArray its2.toArray n1 n2 d1 d2 s1 s2 (by rw [List.size_toArray, List.size_toArray]; omega)) ⟨e1, e2, ?_⟩
  have ea : its.toArray ++ its2.toArray = (its ++ its2).toArray := by simp
  rw [ea]
  exact ⟨.ref _, _, I.lnew (t' := s.toks) (r1.append r2) (by rw [List.length_append]; omega), rfl, q _ I.fresh⟩
theorem tup_eq {K : PySem.W.Frag} {B : Hp} {xs : List V} {ds : List Da} {es : List Da} (h : RepAll K B xs ds) (e : xs = []) : ds ++ es = es := by
  subst e
  cases h
  rfl
theorem o_add : OpR X (binaryOp .Add) (rD X.K dAdd) :=
  opD fun pins s σ B H x y v u dx dy d Q I rx ry b hx hy e q => by
    cases dx with
    | int i =>
      cases dy with
      | int j =>
        cases e
        exact op_add pins s σ H x y v u Q I rx ry ⟨i, j, hx.int, hy.int, q B H _ (Stp.refl b) (.int _)⟩
      | none => cases e
      | bool _ => cases e
      | str _ => cases e
      | tuple _ => cases e
      | list _ => cases e
      | dict _ => cases e
    | str i =>
      cases dy with
      | str j =>
        have e : (if i.length + j.length ≤ 100000 then R.ok (PyData.str (i ++ j)) else .no) = .ok d := e
        by_cases c : i.length + j.length ≤ 100000
        · rw [if_pos c] at e
          cases e
          exact op_add_str pins s σ H x y v u Q I rx ry ⟨i, j, hx.str, hy.str, sz c, q B H _ (Stp.refl b) (.str _)⟩
        · rw [if_neg c] at e
          cases e
      | none => cases e
      | bool _ => cases e
      | int _ => cases e
      | tuple _ => cases e
      | list _ => cases e
      | dict _ => cases e
    | list i =>
      cases dy with
      | list j =>
        have e : (if i.length + j.length ≤ 100000 then R.ok (PyData.list (i ++ j)) else .no) = .ok d := e
        by_cases c : i.length + j.length ≤ 100000
        · rw [if_pos c] at e
          cases e
          obtain ⟨pa, xs, rfl, h1, h2⟩ := hx.list b
          obtain ⟨pb, ys, rfl, h3, h4⟩ := hy.list b
          cases rx
          cases ry
          have l1 := h2.length
          have l2 := h4.length
          exact catL I h1 h3 (sz (by omega)) fun p np => q _ _ _ (Stp.new b np) (.lst (.inl (.inl upd_same)) ((h2.append h4).mono (Le.new (b.back np))))
        · rw [if_neg c] at e
          cases e
      | none => cases e
      | bool _ => cases e
      | int _ => cases e
      | tuple _ => cases e
      | str _ => cases e
      | dict _ => cases e
    | tuple i =>
      cases dy with
      | tuple j =>
        have e : (if i.length + j.length ≤ 100000 then R.ok (PyData.tuple (i ++ j)) else .no) = .ok d := e
        by_cases c : i.length + j.length ≤ 100000
        · rw [if_pos c] at e
          cases e
          obtain ⟨pa, xs, rfl, h1, h1', h2⟩ := hx.tuple b
          obtain ⟨pb, ys, rfl, h3, h3', h4⟩ := hy.tuple b
          have l1 := h2.length
          have l2 := h4.length
          refine op_catP pins s σ H _ _ v u Q I rx ry ⟨pa, pb, xs, ys, rfl, rfl, h1, h3, sz (by omega), fun ex => ?_, fun _ ey => ?_, fun _ _ p o np hd => ?_⟩
          · exact q B H _ (Stp.refl b) (by rw [tup_eq h2 ex]; exact .tup h3' h4)
          · refine q B H _ (Stp.refl b) ?_
            subst ey
            cases h4
            rw [List.append_nil]
            exact .tup h1' h2
          · exact q _ _ _ (Stp.new b np) (.tup (.new hd) ((h2.append h4).mono (Le.new (b.back np))))
        · rw [if_neg c] at e
          cases e
      | none => cases e
      | bool _ => cases e
      | int _ => cases e
      | list _ => cases e
      | str _ => cases e
      | dict _ => cases e
    | none => cases e
    | bool _ => cases e
    | dict _ => cases e

def shD : Nat → Da → Bool
  | _, .none => true
  | _, .bool _ => true
  | _, .int _ => true
  | _, .str x => PyData.canLay0 (.str x)
  | 0, .list _ => false
  | 0, .tuple _ => false
  | n + 1, .list xs => xs.all (shD n)
  | n + 1, .tuple xs => xs.all (shD n)
  | _, .dict _ => false
theorem shD_all : ∀ (n : Nat) (d : Da), shD n d = true → d.canLay0 = true ∧ d.depth ≤ n
  | n, .none, _ => ⟨by simp [PyData.canLay0], by simp [PyData.depth]⟩
  | n, .bool _, _ => ⟨by simp [PyData.canLay0], by simp [PyData.depth]⟩
  | n, .int _, _ => ⟨by simp [PyData.canLay0], by simp [PyData.depth]⟩
  | n, .str x, h => ⟨by cases n <;> exact h, by simp [PyData.depth]⟩
  | 0, .list _, h => by cases h
  | 0, .tuple _, h => by cases h
  | n + 1, .list xs, h => by
    have h : xs.all (shD n) = true := h
    have z : PyData.canLayAll0 xs = true ∧ PyData.depthAll xs ≤ n := by
      induction xs with
      | nil => exact ⟨by simp [PyData.canLayAll0], by simp [PyData.depthAll]⟩
      | cons x xs ih =>
        rw [List.all_cons, Bool.and_eq_true] at h
        obtain ⟨a, b⟩ := shD_all n x h.1
        obtain ⟨c, d⟩ := ih h.2 h.2
        refine ⟨by simp [PyData.canLayAll0, a, c], ?_⟩
        simp only [PyData.depthAll]
        omega
    exact ⟨by simp [PyData.canLay0, z.1], by simp only [PyData.depth]; omega⟩
  | n + 1, .tuple xs, h => by
    have h : xs.all (shD n) = true := h
    have z : PyData.canLayAll0 xs = true ∧ PyData.depthAll xs ≤ n := by
      induction xs with
      | nil => exact ⟨by simp [PyData.canLayAll0], by simp [PyData.depthAll]⟩
      | cons x xs ih =>
        rw [List.all_cons, Bool.and_eq_true] at h
        obtain ⟨a, b⟩ := shD_all n x h.1
        obtain ⟨c, d⟩ := ih h.2 h.2
        refine ⟨by simp [PyData.canLayAll0, a, c], ?_⟩
        simp only [PyData.depthAll]
        omega
    exact ⟨by simp [PyData.canLay0, z.1], by simp only [PyData.depth]; omega⟩
  | 0, .dict _, h => by cases h
  | n + 1, .dict _, h => by cases h
theorem shaped_of {d : Da} (h : shD 8 d = true) : SeqAt.shaped d = true := by
  obtain ⟨a, b⟩ := shD_all 8 d h
  show (d.canLay0 && decide (d.depth ≤ 64)) = true
  rw [a, decide_eq_true (by omega : d.depth ≤ 64)]
  rfl
mutual
theorem Rep.dp {K : PySem.W.Frag} {H : Hp} : ∀ {v : V} {d : Da}, Rep K H v d → d.canLay0 = true → Dp K H v d
  | _, _, .non, _ => .non
  | _, _, .bl b, _ => .bl b
  | _, _, .int i, _ => .int i
  | _, _, .str x, _ => .str x
  | _, _, .lst h r, c => .lst h (RepAll.dp r (by simpa [PyData.canLay0] using c))
  | _, _, .tup h r, c => .tup h.sq (RepAll.dp r (by simpa [PyData.canLay0] using c))
  | _, _, .dct h r, c => by simp [PyData.canLay0] at c
theorem RepAll.dp {K : PySem.W.Frag} {H : Hp} : ∀ {vs : List V} {ds : List Da}, RepAll K H vs ds → PyData.canLayAll0 ds = true → DpAll K H vs ds
  | _, _, .nil, _ => .nil
  | _, _, .cons h r, c => by
    simp only [PyData.canLayAll0, Bool.and_eq_true] at c
    exact .cons (Rep.dp h c.1) (RepAll.dp r c.2)
end
theorem Rr.dp {K : PySem.W.Frag} {B H : Hp} {v : V} {d : Da} (b : Le B H) (h : Rr K B H v d) (c : d.canLay0 = true) : Dp K H v d := by
  rcases h with h | ⟨p, xs, ds, rfl, rfl, h1, h2⟩ | ⟨p, xs, ds, rfl, rfl, h1, h2⟩
  · exact (h.mono b).dp c
  · exact .lst (.inl (.inl h1)) ((h2.mono b).dp (by simpa [PyData.canLay0] using c))
  · simp [PyData.canLay0] at c
def eqOk : Da → Da → Bool
  | .str _, .str _ => true
  | .int _, .int _ => true
  | .bool _, .bool _ => true
  | x, y => shD 8 x && shD 8 y
def dEq (x y : Da) : R Da := if eqOk x y then .ok (.bool (PyData.eqv x y)) else .no
def dNe (x y : Da) : R Da := if eqOk x y then .ok (.bool (!PyData.eqv x y)) else .no
theorem eq_run {pins : List (Addr × Obj)} {s : Shared} {σ : L2.St} {B H : Hp} {x y : V} {v u : Value} {dx dy : Da} {Q : VK} {k : Nat} (hr : Room k X.A) (I : Inv X pins σ H s) (rx : RelV x v) (ry : RelV y u) (b : Le B H) (hx : Rr X.K B H x dx) (hy : Rr X.K B H y dy) (c : eqOk dx dy = true)
    (q : Q (.bl (PyData.eqv dx dy)) H) : wpAny (model X.prog X.w) X.A (compareOp .Eq v u) (EP X pins σ Q) X.xe s := by
  have gen : shD 8 dx && shD 8 dy → wpAny (model X.prog X.w) X.A (compareOp .Eq v u) (EP X pins σ Q) X.xe s := fun c => by
    rw [Bool.and_eq_true] at c
    exact op_eqD hr.units pins s σ H x y v u Q I rx ry ⟨dx, dy, hx.dp b (shD_all 8 _ c.1).1, hy.dp b (shD_all 8 _ c.2).1, shaped_of c.1, shaped_of c.2, q⟩
  cases dx with
  | str i =>
    cases dy with
    | str j =>
      refine op_eq pins s σ H x y v u Q I rx ry ⟨by rw [hx.str, hy.str]; rfl, ?_⟩
      rw [hx.str, hy.str, dec_str]
      exact q
    | _ => exact gen c
  | int i =>
    cases dy with
    | int j =>
      refine op_eq pins s σ H x y v u Q I rx ry ⟨by rw [hx.int, hy.int]; rfl, ?_⟩
      rw [hx.int, hy.int, dec_int]
      exact q
    | _ => exact gen c
  | bool i =>
    cases dy with
    | bool j =>
      refine op_eq pins s σ H x y v u Q I rx ry ⟨by rw [hx.bool, hy.bool]; rfl, ?_⟩
      rw [hx.bool, hy.bool, dec_bl]
      exact q
    | _ => exact gen c
  | none => exact gen c
  | tuple i => exact gen c
  | list i => exact gen c
  | dict i => exact gen c
theorem ne_run {pins : List (Addr × Obj)} {s : Shared} {σ : L2.St} {B H : Hp} {x y : V} {v u : Value} {dx dy : Da} {Q : VK} {k : Nat} (hr : Room k X.A) (I : Inv X pins σ H s) (rx : RelV x v) (ry : RelV y u) (b : Le B H) (hx : Rr X.K B H x dx) (hy : Rr X.K B H y dy) (c : eqOk dx dy = true)
    (q : Q (.bl (!PyData.eqv dx dy)) H) : wpAny (model X.prog X.w) X.A (compareOp .NotEq v u) (EP X pins σ Q) X.xe s := by
  have gen : shD 8 dx && shD 8 dy → wpAny (model X.prog X.w) X.A (compareOp .NotEq v u) (EP X pins σ Q) X.xe s := fun c => by
    rw [Bool.and_eq_true] at c
    exact op_neD hr.units pins s σ H x y v u Q I rx ry ⟨dx, dy, hx.dp b (shD_all 8 _ c.1).1, hy.dp b (shD_all 8 _ c.2).1, shaped_of c.1, shaped_of c.2, q⟩
  cases dx with
  | str i =>
    cases dy with
    | str j =>
      refine op_ne pins s σ H x y v u Q I rx ry ⟨by rw [hx.str, hy.str]; rfl, ?_⟩
      rw [hx.str, hy.str, dec_str]
      exact q
    | _ => exact gen c
  | int i =>
    cases dy with
    | int j =>
      refine op_ne pins s σ H x y v u Q I rx ry ⟨by rw [hx.int, hy.int]; rfl, ?_⟩
      rw [hx.int, hy.int, dec_int]
      exact q
    | _ => exact gen c
  | bool i =>
    cases dy with
    | bool j =>
      refine op_ne pins s σ H x y v u Q I rx ry ⟨by rw [hx.bool, hy.bool]; rfl, ?_⟩
      rw [hx.bool, hy.bool, dec_bl]
      exact q
    | _ => exact gen c
  | none => exact gen c
  | tuple i => exact gen c
  | list i => exact gen c
  | dict i => exact gen c
theorem o_eq {k : Nat} (hr : Room k X.A) : OpR X (compareOp .Eq) (rD X.K dEq) :=
  opD fun pins s σ B H x y v u dx dy d Q I rx ry b hx hy e q => by
    unfold dEq at e
    by_cases c : eqOk dx dy = true
    · rw [if_pos c] at e
      cases e
      exact eq_run hr I rx ry b hx hy c (q B H _ (Stp.refl b) (.bl _))
    · rw [if_neg c] at e
      cases e
theorem o_ne {k : Nat} (hr : Room k X.A) : OpR X (compareOp .NotEq) (rD X.K dNe) :=
  opD fun pins s σ B H x y v u dx dy d Q I rx ry b hx hy e q => by
    unfold dNe at e
    by_cases c : eqOk dx dy = true
    · rw [if_pos c] at e
      cases e
      exact ne_run hr I rx ry b hx hy c (q B H _ (Stp.refl b) (.bl _))
    · rw [if_neg c] at e
      cases e
def isNn : Da → Bool
  | .none => true
  | _ => false
end
end Mi

namespace Mi
open PySem PySem.Spec PyProof.Rows L2

def rDc (K : PySem.W.Frag) (g : List Da → R Da) : List V → Hp → VK → Prop := fun vs H Q => ∃ B ds d, Le B H ∧ RrAll K B H vs ds ∧ g ds = .ok d ∧ ∀ B' H' v, Stp B H B' H' → Rep K B' v d → Q v H'
def rFc (K : PySem.W.Frag) (g : List Da → R Da) : List V → Hp → VK → Prop := fun vs H Q => ∃ B ds d, Le B H ∧ RrAll K B H vs ds ∧ g ds = .ok d ∧ ∀ B' H' p, Stp B H B' H' → H p = none → B' p = none → OwnD K B' H' p d → Q (.ref p) H'
def eBl (g : List Da → R Da) (fs : Env → R (List Da)) : Env → R Da := fun r => (fs r).bind fun ds => (g ds).calm
section
variable {cls : String → Value} {X : Cx} {W : WX}
theorem de_bltB {x : Str} {id : String} {g : List Da → R Da} {e : Expr} {es : List Expr} {fs : Env → R (List Da)} {p pos : Pos} (hc : CallR X (.builtin id) (rDc X.K g)) (hm : X.mg x = none) (hv : bootBuiltins x = some (.builtin id)) (ha : DB cls X W (e :: es) fs) (hg : Gl X x := by rfl)
    (hn : x ≠ "__name__" := by decide) (hdb : (x == ("__debug__" : Str)) = false := by decide) (he : starEach (e :: es) X.env = (false, eval e X.env) :: starEach es X.env := by rfl) (hpl : (backTo pos (starEach es X.env)).any (·.1) = false := by rfl) : DE cls X W (.Call (.Name x p) (e :: es) [] pos) (eBl g fs) := by
  obtain ⟨t, pt, h⟩ := ha.run
  refine ⟨_, pe_callB hc hg hm hv pt hn hdb he hpl, fun F B H σ r Q k p => h F B H σ r _ k (p.bind.imp fun ds B1 H1 s1 p1 vs hvs => ?_)⟩
  obtain ⟨d, e, h'⟩ := p1.calm
  exact ⟨B1, ds, d, s1.bh, hvs, e, fun B' H' v s hv => h' B' H' s v hv⟩
theorem de_bltT {x : Str} {T : String} {g : List Da → R Da} {e : Expr} {es : List Expr} {fs : Env → R (List Da)} {p pos : Pos} (hc : CallR X (.type T) (rDc X.K g)) (hm : X.mg x = none) (hv : bootBuiltins x = some (.type T)) (ha : DB cls X W (e :: es) fs) (hg : Gl X x := by rfl)
    (hn : x ≠ "__name__" := by decide) (hdb : (x == ("__debug__" : Str)) = false := by decide) (he : starEach (e :: es) X.env = (false, eval e X.env) :: starEach es X.env := by rfl) (hpl : (backTo pos (starEach es X.env)).any (·.1) = false := by rfl) : DE cls X W (.Call (.Name x p) (e :: es) [] pos) (eBl g fs) := by
  obtain ⟨t, pt, h⟩ := ha.run
  refine ⟨_, pe_callTy hc hg hm hv pt hn hdb he hpl, fun F B H σ r Q k p => h F B H σ r _ k (p.bind.imp fun ds B1 H1 s1 p1 vs hvs => ?_)⟩
  obtain ⟨d, e, h'⟩ := p1.calm
  exact ⟨B1, ds, d, s1.bh, hvs, e, fun B' H' v s hv => h' B' H' s v hv⟩
theorem df_bltT {x : Str} {T : String} {g : List Da → R Da} {e : Expr} {es : List Expr} {fs : Env → R (List Da)} {p pos : Pos} (hc : CallR X (.type T) (rFc X.K g)) (hm : X.mg x = none) (hv : bootBuiltins x = some (.type T)) (ha : DB cls X W (e :: es) fs) (hg : Gl X x := by rfl)
    (hn : x ≠ "__name__" := by decide) (hdb : (x == ("__debug__" : Str)) = false := by decide) (he : starEach (e :: es) X.env = (false, eval e X.env) :: starEach es X.env := by rfl) (hpl : (backTo pos (starEach es X.env)).any (·.1) = false := by rfl) : DF cls X W (.Call (.Name x p) (e :: es) [] pos) (eBl g fs) := by
  obtain ⟨t, pt, h⟩ := ha.run
  refine ⟨_, pe_callTy hc hg hm hv pt hn hdb he hpl, fun F B H σ r Q k p => h F B H σ r _ k (p.bind.imp fun ds B1 H1 s1 p1 vs hvs => ?_)⟩
  obtain ⟨d, e, h'⟩ := p1.calm
  exact ⟨B1, ds, d, s1.bh, hvs, e, fun B' H' v s n b o => h' B' H' s v (s1.hh.back n) b o⟩

def tyD : Da → String
  | .none => "NoneType"
  | .bool _ => "bool"
  | .int _ => "int"
  | .str _ => "str"
  | .list _ => "list"
  | .tuple _ => "tuple"
  | .dict _ => "dict"
theorem Rr.ty {K : PySem.W.Frag} {B H : Hp} {v : V} {d : Da} (b : Le B H) (h : Rr K B H v d) : TyX K H v (.type (tyD d)) := by
  have lst : ∀ {p : Addr} {xs : List V}, SqL K H p xs → TyX K H (.ref p) (.type "list") := fun {p xs} h => by
    rcases h with (h | ⟨o, h⟩) | ⟨o, its, n, e, c, _⟩
    · exact .base (.lst h)
    · exact .base (.frz h)
    · exact .kList e c
  have tup : ∀ {p : Addr} {xs : List V}, SqT K H p xs → TyX K H (.ref p) (.type "tuple") := fun {p xs} h => by
    rcases h with (h | ⟨o, h⟩) | ⟨o, its, n, e, c, _⟩
    · exact .base (.tup h)
    · exact .fTuple h
    · exact .kTuple e c
  rcases h with h | ⟨p, xs, ds, rfl, rfl, h1, h2⟩ | ⟨p, xs, ds, rfl, rfl, h1, h2⟩
  · cases h with
    | non => exact .base .non
    | bl x => exact .base (.bl x)
    | int x => exact .base (.int x)
    | str x => exact .base (.str x)
    | lst hs hr => exact lst (b.sl hs)
    | tup hs hr => exact tup (b.tp hs).sq
    | dct hs hr => exact .fDict (b _ _ hs)
  · exact .base (.lst h1)
  · exact .base (.dK h1)
def tys : List String := ["NoneType", "bool", "int", "str", "list", "tuple", "dict"]
theorem tyD_mem (d : Da) : tyD d ∈ tys := by cases d <;> simp [tyD, tys]
def isTy (T t : String) : Bool := t == T || (t == "bool" && T == "int")
abbrev KnT (T : String) : Prop := ∀ t ∈ tys, kitB t T = some (isTy T t)
theorem kn_int : KnT "int" := by decide +kernel
theorem kn_bool : KnT "bool" := by decide +kernel
theorem kn_str : KnT "str" := by decide +kernel
theorem kn_tuple : KnT "tuple" := by decide +kernel
def eIsi (T : String) (f : Env → R Da) : Env → R Da := fun r => (f r).bind fun d => .ok (.bool (isTy T (tyD d)))
theorem de_isi {T : String} {x : Str} {e : Expr} {f : Env → R Da} {p p2 pos : Pos} (hT : KnT T) (hm : X.mg "isinstance" = none) (hmT : X.mg x = none) (hv : bootBuiltins x = some (.type T)) (ha : DR cls X W e f) (hg : Gl X "isinstance" := by rfl) (hgT : Gl X x := by rfl)
    (hn : x ≠ "__name__" := by decide) (hdb : (x == ("__debug__" : Str)) = false := by decide) (hs : starEach [e, .Name x p2] X.env = (false, eval e X.env) :: starEach [.Name x p2] X.env := by rfl) (hs2 : starEach [.Name x p2] X.env = (false, eval (.Name x p2) X.env) :: starEach [] X.env := by rfl)
    (hpl : (backTo pos (starEach [.Name x p2] X.env)).any (·.1) = false := by rfl) : DE cls X W (.Call (.Name "isinstance" p) [e, .Name x p2] [] pos) (eIsi T f) := by
  obtain ⟨t, pt, h⟩ := ha.run
  refine ⟨_, pe_callB call_isi hg hm (by decide +kernel) (pa_cons pt (pa_cons (pe_bltn (v := .ty T) hgT hmT hv rfl hn hdb) pa_nil hs2) hs) (by decide) (by decide) hs hpl, fun F B H σ r Q k p => h F B H σ r _ k (p.bind.imp fun d B1 H1 s1 p1 v hv => ?_)⟩
  exact ⟨v, .ty T, .type (tyD d), .type T, isTy T (tyD d), rfl, .ty T, hv.ty s1.bh, kit_ty (hT _ (tyD_mem d)), p1 B1 H1 (Stp.refl s1.bh) _ (.bl _)⟩

def d1 (g : Da → R Da) : List Da → R Da
  | [x] => g x
  | _ => .no
theorem call1 {f : Value} {g : Da → R Da} (h : ∀ (pins : List (Addr × Obj)) (s : Shared) (σ : L2.St) (B H : Hp) (x : V) (d0 d : Da) (us : List Value) (Q : VK), Inv X pins σ H s → Vals [x] us → Le B H → Rr X.K B H x d0 → g d0 = .ok d →
    (∀ B' H' v, Stp B H B' H' → Rep X.K B' v d → Q v H') → wpAny (model X.prog X.w) X.A (call f us) (EP X pins σ Q) X.xe s) : CallR X f (rDc X.K (d1 g)) := by
  intro pins s σ H xs us Q I r ⟨B, ds, d, b, hr, e, q⟩
  cases hr with
  | nil => cases e
  | cons h1 hr =>
    cases hr with
    | cons _ _ => cases e
    | nil => exact h pins s σ B H _ _ d us Q I r b h1 e q
theorem callF1 {f : Value} {g : Da → R Da} (h : ∀ (pins : List (Addr × Obj)) (s : Shared) (σ : L2.St) (B H : Hp) (x : V) (d0 d : Da) (us : List Value) (Q : VK), Inv X pins σ H s → Vals [x] us → Le B H → Rr X.K B H x d0 → g d0 = .ok d →
    (∀ B' H' p, Stp B H B' H' → H p = none → B' p = none → OwnD X.K B' H' p d → Q (.ref p) H') → wpAny (model X.prog X.w) X.A (call f us) (EP X pins σ Q) X.xe s) : CallR X f (rFc X.K (d1 g)) := by
  intro pins s σ H xs us Q I r ⟨B, ds, d, b, hr, e, q⟩
  cases hr with
  | nil => cases e
  | cons h1 hr =>
    cases hr with
    | cons _ _ => cases e
    | nil => exact h pins s σ B H _ _ d us Q I r b h1 e q
def lenD : Da → R Da
  | .list xs => .ok (.int (xs.length : Nat))
  | .tuple xs => .ok (.int (xs.length : Nat))
  | .str x => if x.length ≤ 100000 then .ok (.int (x.length : Nat)) else .no
  | _ => .no
theorem c_len : CallR X (.builtin "len") (rDc X.K (d1 lenD)) := call1 fun pins s σ B H x d0 d us Q I r b h1 e q => by
  cases d0 with
  | list ys =>
    cases e
    obtain ⟨p, zs, rfl, h2, h3⟩ := h1.list b
    refine call_len_seq pins s σ H _ us Q I r ⟨p, zs, rfl, .inl h2, ?_⟩
    rw [h3.length]
    exact q B H _ (Stp.refl b) (.int _)
  | tuple ys =>
    cases e
    obtain ⟨p, zs, rfl, h2, _, h3⟩ := h1.tuple b
    refine call_len_seq pins s σ H _ us Q I r ⟨p, zs, rfl, .inr h2, ?_⟩
    rw [h3.length]
    exact q B H _ (Stp.refl b) (.int _)
  | str x =>
    have e : (if x.length ≤ 100000 then R.ok (PyData.int (x.length : Nat)) else .no) = .ok d := e
    by_cases c : x.length ≤ 100000
    · rw [if_pos c] at e
      cases e
      exact call_len_str pins s σ H _ us Q I r ⟨x, by rw [h1.str], sz c, q B H _ (Stp.refl b) (.int _)⟩
    · rw [if_neg c] at e
      cases e
  | none => cases e
  | bool _ => cases e
  | int _ => cases e
  | dict _ => cases e

def atD (xs : List Da) (i : Int) : Option Da := (ixN xs.length i).bind fun j => xs[j]?
def dItem : Da → Da → R Da
  | .list xs, .int i => match atD xs i with | some d => .ok d | none => .no
  | .tuple xs, .int i => match atD xs i with | some d => .ok d | none => .no
  | .str x, .int i => if x.length ≤ 100000 then (match atI x.cps.toList i with | some c => .ok (.str ⟨#[c]⟩) | none => .no) else .no
  | _, _ => .no
theorem atD_rep {K : PySem.W.Frag} {B : Hp} {xs : List V} {ds : List Da} {i : Int} {d : Da} (h : RepAll K B xs ds) (e : atD ds i = some d) : ∃ v, atI xs i = some v ∧ Rep K B v d := by
  unfold atD at e
  unfold atI
  rw [h.length]
  cases q : ixN ds.length i with
  | none => rw [q] at e; cases e
  | some j =>
    rw [q] at e
    exact h.get e
theorem ix_ok : IxR X (rD X.K dItem) := by
  intro va sl pins s σ H x y v u Q I rx ry ⟨B, dx, dy, d, b, hx, hy, e, q⟩ hsb
  cases dx with
  | list ds =>
    cases dy with
    | int i =>
      have e : (match atD ds i with | some d => R.ok d | none => .no) = .ok d := e
      cases c : atD ds i with
      | none => rw [c] at e; cases e
      | some d' =>
        rw [c] at e
        cases e
        obtain ⟨p, xs, rfl, h1, h2⟩ := hx.list b
        obtain ⟨w, h3, h4⟩ := atD_rep h2 c
        exact ix_list va sl pins s σ H _ y v u Q I rx ry ⟨p, xs, i, w, rfl, hy.int, h1, h3, q B H _ (Stp.refl b) h4⟩ hsb
    | none => cases e
    | bool _ => cases e
    | str _ => cases e
    | tuple _ => cases e
    | list _ => cases e
    | dict _ => cases e
  | tuple ds =>
    cases dy with
    | int i =>
      have e : (match atD ds i with | some d => R.ok d | none => .no) = .ok d := e
      cases c : atD ds i with
      | none => rw [c] at e; cases e
      | some d' =>
        rw [c] at e
        cases e
        obtain ⟨p, xs, rfl, h1, _, h2⟩ := hx.tuple b
        obtain ⟨w, h3, h4⟩ := atD_rep h2 c
        exact ix_tup va sl pins s σ H _ y v u Q I rx ry ⟨p, xs, i, w, rfl, hy.int, h1, h3, q B H _ (Stp.refl b) h4⟩ hsb
    | none => cases e
    | bool _ => cases e
    | str _ => cases e
    | tuple _ => cases e
    | list _ => cases e
    | dict _ => cases e
  | str z =>
    cases dy with
    | int i =>
      have e : (if z.length ≤ 100000 then (match atI z.cps.toList i with | some c => R.ok (PyData.str ⟨#[c]⟩) | none => .no) else .no) = .ok d := e
      by_cases hz : z.length ≤ 100000
      · rw [if_pos hz] at e
        cases c : atI z.cps.toList i with
        | none => rw [c] at e; cases e
        | some d' =>
          rw [c] at e
          cases e
          exact ix_str va sl pins s σ H _ y v u Q I rx ry ⟨z, i, d', hx.str, hy.int, sz hz, c, q B H _ (Stp.refl b) (.str _)⟩ hsb
      · rw [if_neg hz] at e
        cases e
    | none => cases e
    | bool _ => cases e
    | str _ => cases e
    | tuple _ => cases e
    | list _ => cases e
    | dict _ => cases e
  | none => cases e
  | bool _ => cases e
  | int _ => cases e
  | dict _ => cases e
def lexLtI : List Int → List Int → Bool
  | [], [] => false
  | [], _ :: _ => true
  | _ :: _, [] => false
  | x :: xs, y :: ys => if x = y then lexLtI xs ys else decide (x < y)
def intsD : List Da → Option (List Int)
  | [] => some []
  | .int i :: ds => (intsD ds).map (i :: ·)
  | _ => none
theorem intsD_eq : ∀ {ds : List Da} {ns : List Int}, intsD ds = some ns → ds = ns.map PyData.int
  | [], ns, e => by cases e; rfl
  | .int i :: ds, ns, e => by
    have e : (intsD ds).map (i :: ·) = some ns := e
    cases q : intsD ds with
    | none => rw [q] at e; cases e
    | some ms =>
      rw [q] at e
      cases e
      rw [intsD_eq q]
      rfl
  | .none :: _, _, e => by cases e
  | .bool _ :: _, _, e => by cases e
  | .str _ :: _, _, e => by cases e
  | .list _ :: _, _, e => by cases e
  | .tuple _ :: _, _, e => by cases e
  | .dict _ :: _, _, e => by cases e
theorem lexAt_ge : ∀ (ns ms : List Int) (i : Nat), Ob.lexAt (fun j => decide (ns.getD (j - i) 0 = ms.getD (j - i) 0)) (fun j => decide (ms.getD (j - i) 0 ≤ ns.getD (j - i) 0)) (decide (ms.length ≤ ns.length)) i (min ns.length ms.length) = !lexLtI ns ms
  | [], [], i => rfl
  | [], m :: ms, i => by
    show Ob.lexAt _ _ _ i (min 0 _) = _
    rw [Nat.zero_min]
    rfl
  | n :: ns, [], i => by
    show Ob.lexAt _ _ _ i (min _ 0) = _
    rw [Nat.min_zero]
    rfl
  | n :: ns, m :: ms, i => by
    have hm : min (n :: ns).length (m :: ms).length = min ns.length ms.length + 1 := by
      rw [List.length_cons, List.length_cons]
      omega
    rw [hm, Ob.lexAt_succ]
    have e0 : i - i = 0 := Nat.sub_self i
    simp only [e0, List.getD_cons_zero, lexLtI]
    by_cases h : n = m
    · rw [if_pos (decide_eq_true h), if_pos h]
      have ih := lexAt_ge ns ms (i + 1)
      rw [← ih]
      have len : decide ((m :: ms).length ≤ (n :: ns).length) = decide (ms.length ≤ ns.length) := by
        rw [List.length_cons, List.length_cons]
        by_cases q : ms.length ≤ ns.length
        · rw [decide_eq_true q, decide_eq_true (by omega)]
        · rw [decide_eq_false q, decide_eq_false (by omega)]
      rw [len]
      have z : ∀ (e1 e2 r1 r2 : Nat → Bool) (c : Bool) (k j : Nat), (∀ l, j ≤ l → e1 l = e2 l ∧ r1 l = r2 l) → Ob.lexAt e1 r1 c j k = Ob.lexAt e2 r2 c j k := by
        intro e1 e2 r1 r2 c k
        induction k with
        | zero => intro j _; rfl
        | succ k ih =>
          intro j hl
          rw [Ob.lexAt_succ, Ob.lexAt_succ, (hl j (Nat.le_refl j)).1, (hl j (Nat.le_refl j)).2, ih (j + 1) fun l hle => hl l (by omega)]
      refine z _ _ _ _ _ _ _ fun l hl => ?_
      have q : l - i = (l - (i + 1)) + 1 := by omega
      rw [q]
      exact ⟨rfl, rfl⟩
    · have hd : ¬ (decide (n = m) = true) := by
        rw [decide_eq_true_iff]
        exact h
      rw [if_neg hd, if_neg h]
      by_cases q : m ≤ n
      · rw [decide_eq_true q, decide_eq_false (by omega)]
        rfl
      · rw [decide_eq_false q, decide_eq_true (by omega)]
        rfl
def dGe : Da → Da → R Da
  | .int i, .int j => .ok (.bool (decide (j ≤ i)))
  | .tuple xs, .tuple ys => match intsD xs, intsD ys with
    | some ns, some ms => .ok (.bool (!lexLtI ns ms))
    | _, _ => .no
  | _, _ => .no
theorem o_ge {k : Nat} (hr : Room k X.A) : OpR X (compareOp .GtE) (rD X.K dGe) :=
  opD fun pins s σ B H x y v u dx dy d Q I rx ry b hx hy e q => by
    cases dx with
    | int i =>
      cases dy with
      | int j =>
        cases e
        exact op_ge pins s σ H x y v u Q I rx ry ⟨i, j, hx.int, hy.int, q B H _ (Stp.refl b) (.bl _)⟩
      | none => cases e
      | bool _ => cases e
      | str _ => cases e
      | tuple _ => cases e
      | list _ => cases e
      | dict _ => cases e
    | tuple xs =>
      cases dy with
      | tuple ys =>
        have e : (match intsD xs, intsD ys with | some ns, some ms => R.ok (PyData.bool (!lexLtI ns ms)) | _, _ => .no) = .ok d := e
        cases c1 : intsD xs with
        | none => rw [c1] at e; cases e
        | some ns =>
          cases c2 : intsD ys with
          | none => rw [c1, c2] at e; cases e
          | some ms =>
            rw [c1, c2] at e
            cases e
            have q1 := intsD_eq c1
            have q2 := intsD_eq c2
            subst q1 q2
            obtain ⟨pa, vs, rfl, h1, _, h2⟩ := hx.tuple b
            obtain ⟨pb, ws, rfl, h3, _, h4⟩ := hy.tuple b
            have ev := h2.ints
            have ew := h4.ints
            subst ev ew
            cases rx
            cases ry
            obtain ⟨its, r1, p1, _⟩ := I.tuple h1
            obtain ⟨its2, r2, p2, _⟩ := I.tuple h3
            have i1 : IntsAre its ns := Vals.ints r1
            have i2 : IntsAre its2 ms := Vals.ints r2
            have e1 : its.toArray.size = ns.length := by rw [List.size_toArray]; exact i1.length
            have e2 : its2.toArray.size = ms.length := by rw [List.size_toArray]; exact i2.length
            have at1 : ∀ j (h1 : j < its.toArray.size), ∃ t, its.toArray[j] = .int (ns.getD j 0) t := fun j h1 => PyProof.Rows.IntsAre.int_at i1 _ _ (by simp at h1; simp [h1])
            have at2 : ∀ j (h1 : j < its2.toArray.size), ∃ t, its2.toArray[j] = .int (ms.getD j 0) t := fun j h1 => PyProof.Rows.IntsAre.int_at i2 _ _ (by simp at h1; simp [h1])
            have G := Ob.RcOp.tuples_ge (A := X.A) (s := s) (e := fun j => decide (ns.getD j 0 = ms.getD j 0)) (r := fun j => decide (ms.getD j 0 ≤ ns.getD j 0)) p1 p2 hr.units0 (fun j h1 h2 => by
              obtain ⟨t, et⟩ := at1 j h1
              obtain ⟨t', et'⟩ := at2 j h2
              rw [et, et']
              have z : (ns.getD j 0 == ms.getD j 0) = decide (ns.getD j 0 = ms.getD j 0) := by
                by_cases q : ns.getD j 0 = ms.getD j 0
                · rw [decide_eq_true q]; exact beq_iff_eq.mpr q
                · rw [decide_eq_false q]; exact beq_eq_false_iff_ne.mpr q
              rw [← z]
              exact SeqAt.EqAt.int_int _ _ _ _) (fun j h1 h2 _ => by
              obtain ⟨t, et⟩ := at1 j h1
              obtain ⟨t', et'⟩ := at2 j h2
              rw [et, et']
              exact Ob.RcOp.ge_int _ _ _ _)
            rw [e1, e2] at G
            have L := lexAt_ge ns ms 0
            simp only [Nat.sub_zero] at L
            have L2 := L
            refine G X.prog X.w X.xe (EP X pins σ Q) ⟨.bl _, H, I, rfl, ?_⟩
            first
              | (rw [L]; exact q B H _ (Stp.refl b) (.bl _))
              | (have z : ∀ c : Bool, c = !lexLtI ns ms → Q (.bl c) H := fun c hc => by rw [hc]; exact q B H _ (Stp.refl b) (.bl _)
                 exact z _ L)
      | none => cases e
      | bool _ => cases e
      | int _ => cases e
      | str _ => cases e
      | list _ => cases e
      | dict _ => cases e
    | none => cases e
    | bool _ => cases e
    | str _ => cases e
    | list _ => cases e
    | dict _ => cases e
def dLt : Da → Da → R Da
  | .int i, .int j => .ok (.bool (decide (i < j)))
  | .str x, .str y => .ok (.bool (decide (x.cps.toList < y.cps.toList)))
  | _, _ => .no
def dLe : Da → Da → R Da := dInt fun i j => .ok (.bool (decide (i ≤ j)))
def dGt : Da → Da → R Da := dInt fun i j => .ok (.bool (decide (j < i)))
theorem o_le : OpR X (compareOp .LtE) (rD X.K dLe) := op_int0 op_le fun i j d e B => by cases e; exact .bl _
theorem o_gt : OpR X (compareOp .Gt) (rD X.K dGt) := op_int0 op_gt fun i j d e B => by cases e; exact .bl _
theorem o_lt : OpR X (compareOp .Lt) (rD X.K dLt) :=
  opD fun pins s σ B H x y v u dx dy d Q I rx ry b hx hy e q => by
    cases dx with
    | int i =>
      cases dy with
      | int j =>
        cases e
        exact op_lt pins s σ H x y v u Q I rx ry ⟨i, j, hx.int, hy.int, q B H _ (Stp.refl b) (.bl _)⟩
      | none => cases e
      | bool _ => cases e
      | str _ => cases e
      | tuple _ => cases e
      | list _ => cases e
      | dict _ => cases e
    | str i =>
      cases dy with
      | str j =>
        cases e
        exact op_lt_str pins s σ H x y v u Q I rx ry ⟨i, j, hx.str, hy.str, q B H _ (Stp.refl b) (.bl _)⟩
      | none => cases e
      | bool _ => cases e
      | int _ => cases e
      | tuple _ => cases e
      | list _ => cases e
      | dict _ => cases e
    | none => cases e
    | bool _ => cases e
    | tuple _ => cases e
    | list _ => cases e
    | dict _ => cases e
end
end Mi

namespace Mi
open PySem PySem.Spec PyProof.Rows L2
section
variable {cls : String → Value} {X : Cx} {W : WX}

def cutD (xs : List Da) (lo hi : Option Int) : List Da := (xs.drop (HT.sIx xs.length 0 lo)).take (HT.sIx xs.length xs.length hi - HT.sIx xs.length 0 lo)
theorem cut_rep {K : PySem.W.Frag} {B : Hp} {xs : List V} {ds : List Da} (h : RepAll K B xs ds) (lo hi : Option Int) : RepAll K B (cutV xs lo hi) (cutD ds lo hi) := by
  unfold cutV cutD
  rw [h.length]
  exact (h.drop _).take _
def slD : Da → Option Int → Option Int → R Da
  | .list xs, lo, hi => .ok (.list (cutD xs lo hi))
  | .tuple xs, lo, hi => .ok (.tuple (cutD xs lo hi))
  | .str z, lo, hi => if z.length ≤ 100000 then .ok (.str (cutS z lo hi)) else .no
  | _, _, _ => .no
def rDs (K : PySem.W.Frag) (g : Da → Option Int → Option Int → R Da) : V → Option Int → Option Int → Hp → VK → Prop := fun x lo hi H Q => ∃ B dx d, Le B H ∧ Rr K B H x dx ∧ g dx lo hi = .ok d ∧ ∀ B' H' v, Stp B H B' H' → Rep K B' v d → Q v H'
theorem cut_whole {xs : List Da} {lo hi : Option Int} (h : HT.sIx xs.length 0 lo = 0 ∧ HT.sIx xs.length xs.length hi = xs.length) : cutD xs lo hi = xs := by
  unfold cutD
  rw [h.1, h.2, List.drop_zero, Nat.sub_zero, List.take_length]
theorem sl_ok : SlR X (rDs X.K slD) := by
  intro pins s σ H x v vl vu lo hi sl Q I rx hs pl pu ⟨B, dx, d, b, hx, e, q⟩
  cases dx with
  | list ds =>
    cases e
    obtain ⟨p, xs, rfl, h1, h2⟩ := hx.list b
    exact sl_list pins s σ H _ v vl vu lo hi sl Q I rx hs pl pu ⟨p, xs, rfl, h1, fun p np => q _ _ _ (Stp.new b np) (.lst (.inl (.inl upd_same)) ((cut_rep h2 lo hi).mono (Le.new (b.back np))))⟩
  | tuple ds =>
    cases e
    obtain ⟨p, xs, rfl, h1, h1', h2⟩ := hx.tuple b
    refine sl_tupP pins s σ H _ v vl vu lo hi sl Q I rx hs pl pu ⟨p, xs, rfl, h1, fun hw => ?_, fun _ p o np hd => q _ _ _ (Stp.new b np) (.tup (.new hd) ((cut_rep h2 lo hi).mono (Le.new (b.back np))))⟩
    rw [h2.length] at hw
    refine q B H _ (Stp.refl b) ?_
    rw [cut_whole hw]
    exact .tup h1' h2
  | str z =>
    have e : (if z.length ≤ 100000 then R.ok (PyData.str (cutS z lo hi)) else .no) = .ok d := e
    by_cases c : z.length ≤ 100000
    · rw [if_pos c] at e
      cases e
      exact sl_str pins s σ H _ v vl vu lo hi sl Q I rx hs pl pu ⟨z, hx.str, sz c, q B H _ (Stp.refl b) (.str _)⟩
    · rw [if_neg c] at e
      cases e
  | none => cases e
  | bool _ => cases e
  | int _ => cases e
  | dict _ => cases e
structure DO (cls : String → Value) (X : Cx) (W : WX) (e : Option Expr) (f : Env → R (Option Int)) : Prop where
  run : ∃ t, PO X e t ∧ ∀ (F B H : Hp) (σ : L2.St) (r : Env) (Q : Option Int → Hp → Prop), Ok X.K F B H σ r → Pw cls B H σ W (fun o _ H' => Q o H') (f r) → t σ H Q
def oN : Env → R (Option Int) := fun _ => .ok none
def isI : Da → R Int
  | .int i => .ok i
  | _ => .no
def oS (f : Env → R Da) : Env → R (Option Int) := fun r => (f r).bind fun d => (isI d).bind fun i => .ok (some i)
theorem do_none : DO cls X W none oN := ⟨_, po_none, fun F B H σ r Q k p => p B H (Stp.refl k.bh)⟩
theorem do_some {e : Expr} {f : Env → R Da} (h : DE cls X W e f) : DO cls X W (some e) (oS f) := by
  obtain ⟨t, pt, h⟩ := h.run
  refine ⟨_, po_some pt, fun F B H σ r Q k p => h F B H σ r _ k (p.bind.imp fun d B' H' s q v hv => ?_)⟩
  cases d with
  | int i =>
    cases hv
    exact ⟨i, rfl, q B' H' (Stp.refl s.bh)⟩
  | none => exact q.elim
  | bool _ => exact q.elim
  | str _ => exact q.elim
  | list _ => exact q.elim
  | tuple _ => exact q.elim
  | dict _ => exact q.elim
def eSl (f : Env → R Da) (fl fh : Env → R (Option Int)) : Env → R Da := fun r => (f r).bind fun d => (fl r).bind fun l => (fh r).bind fun h => (slD d l h).calm
theorem de_slice {e : Expr} {lo hi : Option Expr} {f : Env → R Da} {fl fh : Env → R (Option Int)} {p2 pos : Pos} (he : DR cls X W e f) (hl : DO cls X W lo fl) (hh : DO cls X W hi fh) : DE cls X W (.Subscript e (.Slice lo hi none p2) pos) (eSl f fl fh) := by
  obtain ⟨t, pt, he⟩ := he.run
  obtain ⟨tl, pl, hl⟩ := hl.run
  obtain ⟨th, ph, hh⟩ := hh.run
  refine ⟨_, pe_slice sl_ok pt pl ph, fun F B H σ r Q k p => he F B H σ r _ k (p.bind.imp fun d B1 H1 s1 p1 v hv => hl F B1 H1 σ r _ (k.stp s1) (p1.bind.imp fun l B2 H2 s2 p2 => hh F B2 H2 σ r _ ((k.stp s1).stp s2) (p2.bind.imp fun h B3 H3 s3 p3 => ?_)))⟩
  obtain ⟨d', e', q⟩ := p3.calm
  exact ⟨B3, d, d', s3.bh, (hv.stp s2).stp s3, e', fun B' H' v s hv => q B' H' s v hv⟩

end
end Mi

namespace Mi
open PySem PySem.Spec PyProof.Rows L2

def isK (n : Nat) : Da → Bool
  | .int _ => n == 0
  | .str _ => n == 1
  | .tuple (x :: xs) => n == 2 && (intsD (x :: xs)).isSome
  | _ => false
section
variable {le : Da → Da → Bool}
end
section
variable {prog : Program} {w : World} {A : Around} {E : Value → Shared → Prop} {s : Shared} {v : Value} {vs : List Value} {Q : Value → Shared → Prop}
end

section
variable {cls : String → Value} {X : Cx} {W : WX}
theorem SqL.at {pins : List (Addr × Obj)} {s : Shared} {σ : L2.St} {H : Hp} {p : Addr} {xs : List V} (I : Inv X pins σ H s) (h : SqL X.K H p xs) : ∃ its o n, Vals xs its ∧ s.heap.get? p = some o ∧ o.cls = .type "list" ∧ o.data = .seq its.toArray n ∧ xs.length ≤ sizeLine := by
  obtain ⟨its, r, ⟨o, n, ho, hc, _, hd⟩, hz⟩ := I.list h
  exact ⟨its, o, n, r, ho, hc, hd, hz⟩
theorem SqT.at {pins : List (Addr × Obj)} {s : Shared} {σ : L2.St} {H : Hp} {p : Addr} {xs : List V} (I : Inv X pins σ H s) (h : SqT X.K H p xs) : ∃ its o n, Vals xs its ∧ s.heap.get? p = some o ∧ o.cls = .type "tuple" ∧ o.data = .seq its.toArray n ∧ xs.length ≤ sizeLine := by
  obtain ⟨its, r, ⟨o, ho, hc, n, hd⟩, hz⟩ := I.tuple h
  exact ⟨its, o, n, r, ho, hc, hd, hz⟩
end
end Mi

namespace Mi
open PySem PySem.Spec PyProof.Rows L2
section
variable {cls : String → Value} {X : Cx} {W : WX}

def listD : Da → R Da
  | .list ds => .ok (.list ds)
  | .tuple ds => .ok (.list ds)
  | _ => .no
def tupleD : Da → R Da
  | .list ds => .ok (.tuple ds)
  | .tuple ds => .ok (.tuple ds)
  | _ => .no
theorem c_list : CallR X (.type "list") (rFc X.K (d1 listD)) := callF1 fun pins s σ B H x d0 d us Q I r b h1 e q => by
  cases d0 with
  | list ds =>
    cases e
    obtain ⟨p, xs, rfl, h2, h3⟩ := h1.list b
    exact call_list_of pins s σ H _ us Q I r ⟨p, xs, rfl, .inl h2, fun l hl => q B _ l (Stp.drop b hl) hl (b.back hl) ⟨xs, upd_same, h3⟩⟩
  | tuple ds =>
    cases e
    obtain ⟨p, xs, rfl, h2, _, h3⟩ := h1.tuple b
    exact call_list_of pins s σ H _ us Q I r ⟨p, xs, rfl, .inr h2, fun l hl => q B _ l (Stp.drop b hl) hl (b.back hl) ⟨xs, upd_same, h3⟩⟩
  | none => cases e
  | bool _ => cases e
  | int _ => cases e
  | str _ => cases e
  | dict _ => cases e
theorem c_tuple : CallR X (.type "tuple") (rDc X.K (d1 tupleD)) := call1 fun pins s σ B H x d0 d us Q I r b h1 e q => by
  cases d0 with
  | list ds =>
    cases e
    obtain ⟨p, xs, rfl, h2, h3⟩ := h1.list b
    exact call_tupleP pins s σ H _ us Q I r ⟨p, xs, rfl, .inl ⟨h2, fun l o hl hd => q _ _ _ (Stp.new b hl) (.tup (.new hd) (h3.mono (Le.new (b.back hl))))⟩⟩
  | tuple ds =>
    cases e
    obtain ⟨p, xs, rfl, h2, h2', h3⟩ := h1.tuple b
    exact call_tupleP pins s σ H _ us Q I r ⟨p, xs, rfl, .inr ⟨h2, q B H _ (Stp.refl b) (.tup h2' h3)⟩⟩
  | none => cases e
  | bool _ => cases e
  | int _ => cases e
  | str _ => cases e
  | dict _ => cases e
def intD : Da → R Da
  | .int i => .ok (.int i)
  | .bool b => .ok (.int (if b then 1 else 0))
  | .str a => if a.length ≤ 640 then (match PySem.intText? a with | some n => .ok (.int n) | none => .no) else .no
  | _ => .no
theorem c_int : CallR X (.type "int") (rDc X.K (d1 intD)) := call1 fun pins s σ B H x d0 d us Q I r b h1 e q => by
  cases d0 with
  | int i =>
    cases e
    exact call_int1 pins s σ H _ us Q I r (.inl ⟨i, by rw [h1.int], q B H _ (Stp.refl b) (.int _)⟩)
  | bool i =>
    cases e
    exact call_int1 pins s σ H _ us Q I r (.inr ⟨i, by rw [h1.bool], q B H _ (Stp.refl b) (.int _)⟩)
  | str a =>
    have e : (if a.length ≤ 640 then (match PySem.intText? a with | some n => R.ok (PyData.int n) | none => .no) else .no) = .ok d := e
    by_cases c : a.length ≤ 640
    · rw [if_pos c] at e
      cases hn : PySem.intText? a with
      | none => rw [hn] at e; cases e
      | some n =>
        rw [hn] at e
        cases e
        exact call_int_str pins s σ H _ us Q I r ⟨a, n, by rw [h1.str], hn, c, q B H _ (Stp.refl b) (.int _)⟩
    · rw [if_neg c] at e
      cases e
  | none => cases e
  | list _ => cases e
  | tuple _ => cases e
  | dict _ => cases e

def rMd (K : PySem.W.Frag) (g : Str → List Da → R Da) : V → List V → Hp → VK → Prop := fun x xs H Q => ∃ B z ds d, Le B H ∧ x = .str z ∧ RrAll K B H xs ds ∧ g z ds = .ok d ∧ ∀ B' H' v, Stp B H B' H' → Rep K B' v d → Q v H'
def eMs (g : Str → List Da → R Da) (f : Env → R Da) (fs : Env → R (List Da)) : Env → R Da := fun r => (f r).bind fun d => match d with
  | .str z => (fs r).bind fun ds => (g z ds).calm
  | _ => .no
theorem de_strM {name : Str} {id : String} {g : Str → List Da → R Da} {o e : Expr} {es : List Expr} {f : Env → R Da} {fs : Env → R (List Da)} {apos cpos : Pos} (slot : Slot "str" name id) (hty : typeOf (.builtin id) = pure (.type "method_descriptor")) (hm : MtR X id (rMd X.K g)) (ho : DE cls X W o f) (ha : DB cls X W (e :: es) fs)
    (hbase : attributeBase o name X.env (eval o X.env) = eval o X.env := by rfl)
    (hfew : ((backTo cpos (starEach (e :: es) X.env)).all (fun x => !x.1) && (backToKw cpos (keywordEach [] X.env)).all (fun x => x.1.isSome)
      && decide ((e :: es).length + ([] : List Keyword).length + (if ([] : List Keyword).isEmpty then 0 else 1) < 30)) = true := by rfl)
    (hline : (apos.endLine == cpos.line) = true := by rfl) (hs : starEach (e :: es) X.env = (false, eval e X.env) :: starEach es X.env := by rfl) (hplain : (backTo cpos (starEach es X.env)).any (·.1) = false := by rfl) :
    DE cls X W (.Call (.Attribute o name apos) (e :: es) [] cpos) (eMs g f fs) := by
  obtain ⟨t, pt, h⟩ := ho.run
  obtain ⟨u, pu, h'⟩ := ha.run
  refine ⟨_, pe_bm PySem.F.plainAttrs_str slot hty hm pt pu hbase hfew hline hs hplain, fun F B H σ r Q k p => h F B H σ r _ k (p.bind.imp fun d B1 H1 s1 p1 v hv => ?_)⟩
  cases d with
  | str z =>
    cases hv
    refine ⟨rfl, h' F B1 H1 σ r _ (k.stp s1) (p1.bind.imp fun ds B2 H2 s2 p2 vs hvs => ?_)⟩
    obtain ⟨d', e', q⟩ := p2.calm
    exact ⟨B2, z, ds, d', s2.bh, rfl, hvs, e', fun B' H' v s hv => q B' H' s v hv⟩
  | none => exact p1.elim
  | bool _ => exact p1.elim
  | int _ => exact p1.elim
  | list _ => exact p1.elim
  | tuple _ => exact p1.elim
  | dict _ => exact p1.elim
def strsD : List Da → Option (List Str)
  | [] => some []
  | .str i :: ds => (strsD ds).map (i :: ·)
  | _ => none
theorem strsD_eq : ∀ {ds : List Da} {ns : List Str}, strsD ds = some ns → ds = ns.map PyData.str
  | [], ns, e => by cases e; rfl
  | .str i :: ds, ns, e => by
    have e : (strsD ds).map (i :: ·) = some ns := e
    cases q : strsD ds with
    | none => rw [q] at e; cases e
    | some ms =>
      rw [q] at e
      cases e
      rw [strsD_eq q]
      rfl
  | .none :: _, _, e => by cases e
  | .bool _ :: _, _, e => by cases e
  | .int _ :: _, _, e => by cases e
  | .list _ :: _, _, e => by cases e
  | .tuple _ :: _, _, e => by cases e
  | .dict _ :: _, _, e => by cases e
def joinS (z : Str) (ys : List Str) : R Da := if (ys.map (·.length)).sum + ys.length * z.length ≤ 100000 then .ok (.str (Txt.join z ys)) else .no
def joinL (z : Str) (ds : List Da) : R Da := match strsD ds with
  | some ys => joinS z ys
  | none => .no
def joinD (z : Str) : List Da → R Da
  | [.list ds] => joinL z ds
  | [.tuple ds] => joinL z ds
  | _ => .no
theorem joinL_inv {z : Str} {ds : List Da} {d : Da} (e : joinL z ds = .ok d) : ∃ ys : List Str, ds = ys.map PyData.str ∧ (ys.map (·.length)).sum + ys.length * z.length ≤ 16777216 ∧ d = .str (Txt.join z ys) := by
  unfold joinL at e
  cases q : strsD ds with
  | none => rw [q] at e; cases e
  | some ys =>
    rw [q] at e
    have e : (if (ys.map (·.length)).sum + ys.length * z.length ≤ 100000 then R.ok (PyData.str (Txt.join z ys)) else .no) = .ok d := e
    by_cases c : (ys.map (·.length)).sum + ys.length * z.length ≤ 100000
    · rw [if_pos c] at e
      cases e
      exact ⟨ys, strsD_eq q, by omega, rfl⟩
    · rw [if_neg c] at e
      cases e
theorem m_join : MtR X "str.join" (rMd X.K joinD) := by
  intro pins s σ H x xs v us Q I rx rs ⟨B, z, ds, d, b, ex, hr, e, q⟩
  cases hr with
  | nil => cases e
  | cons h1 hr =>
    cases hr with
    | cons _ _ => unfold joinD at e; split at e <;> simp_all
    | nil =>
      rename_i y dy
      cases dy with
      | list es =>
        obtain ⟨ys, e1, e2, e3⟩ := joinL_inv (show joinL z es = .ok d from e)
        subst e1 e3
        obtain ⟨p, zs, rfl, h2, h3⟩ := h1.list b
        rw [h3.strs] at h2
        exact mt_join pins s σ H x _ v us Q I rx rs ⟨z, p, ys, ex, rfl, .inl h2, e2, q B H _ (Stp.refl b) (.str _)⟩
      | tuple es =>
        obtain ⟨ys, e1, e2, e3⟩ := joinL_inv (show joinL z es = .ok d from e)
        subst e1 e3
        obtain ⟨p, zs, rfl, h2, _, h3⟩ := h1.tuple b
        rw [h3.strs] at h2
        exact mt_join pins s σ H x _ v us Q I rx rs ⟨z, p, ys, ex, rfl, .inr h2, e2, q B H _ (Stp.refl b) (.str _)⟩
      | none => cases e
      | bool _ => cases e
      | int _ => cases e
      | str _ => cases e
      | dict _ => cases e
def s1D (g : Str → Str → R Da) (z : Str) : List Da → R Da
  | [.str y] => g z y
  | _ => .no
theorem mtS {id : String} {g : Str → Str → R Da} (h : ∀ (pins : List (Addr × Obj)) (s : Shared) (σ : L2.St) (B H : Hp) (z y : Str) (v : Value) (us : List Value) (d : Da) (Q : VK), Inv X pins σ H s → RelV (.str z) v → Vals [.str y] us → Le B H → g z y = .ok d → (∀ B' H' v, Stp B H B' H' → Rep X.K B' v d → Q v H') →
    wpAny (model X.prog X.w) X.A (call (.builtin id) (v :: us)) (EP X pins σ Q) X.xe s) : MtR X id (rMd X.K (s1D g)) := by
  intro pins s σ H x xs v us Q I rx rs ⟨B, z, ds, d, b, ex, hr, e, q⟩
  cases hr with
  | nil => cases e
  | cons h1 hr =>
    cases hr with
    | cons _ _ => unfold s1D at e; split at e <;> simp_all
    | nil =>
      rename_i y dy
      cases dy with
      | str w =>
        subst ex
        rw [h1.str] at rs
        exact h pins s σ B H z w v us d Q I rx rs b e q
      | none => cases e
      | bool _ => cases e
      | int _ => cases e
      | list _ => cases e
      | tuple _ => cases e
      | dict _ => cases e
def countS (z y : Str) : R Da := .ok (.int (Txt.count z y))
theorem m_count : MtR X "str.count" (rMd X.K (s1D countS)) := mtS fun pins s σ B H z y v us d Q I rx rs b e q => by
  cases e
  exact mt_count pins s σ H _ _ v us Q I rx rs ⟨z, y, rfl, rfl, q B H _ (Stp.refl b) (.int _)⟩
def inSeq (x : Da) (ds : List Da) : R Bool := if shD 7 x && ds.all (shD 7) then .ok (ds.any fun z => PyData.eqv z x) else .no
def inD : Da → Da → R Bool
  | .str x, .str z => match x.cps.toList with
    | [c] => .ok (decide (c ∈ z.cps.toList))
    | _ => .no
  | x, .list ds => inSeq x ds
  | x, .tuple ds => inSeq x ds
  | _, _ => .no
theorem one_sign {x : Str} {c : Nat} (h : x.cps.toList = [c]) : x = ⟨#[c]⟩ := by
  cases x with
  | mk a =>
    have h : a.toList = [c] := h
    have : a = #[c] := by
      apply Array.toList_inj.mp
      rw [h]
    rw [this]
theorem inSeq_inv {x : Da} {ds : List Da} {b : Bool} (e : inSeq x ds = .ok b) : shD 7 x = true ∧ ds.all (shD 7) = true ∧ b = ds.any fun z => PyData.eqv z x := by
  unfold inSeq at e
  by_cases c : (shD 7 x && ds.all (shD 7)) = true
  · rw [if_pos c] at e
    rw [Bool.and_eq_true] at c
    cases e
    exact ⟨c.1, c.2, rfl⟩
  · rw [if_neg c] at e
    cases e
theorem shaped7 {d : Da} (h : shD 7 d = true) : SeqAt.shaped d = true := by
  obtain ⟨a, b⟩ := shD_all 7 d h
  show (d.canLay0 && decide (d.depth ≤ 64)) = true
  rw [a, decide_eq_true (by omega : d.depth ≤ 64)]
  rfl
theorem in_run {pins : List (Addr × Obj)} {s : Shared} {σ : L2.St} {B H : Hp} {x y : V} {v u : Value} {dx dy : Da} {bb : Bool} {Q : VK} {k : Nat} (hr : Room k X.A) (I : Inv X pins σ H s) (rx : RelV x v) (ry : RelV y u) (b : Le B H) (hx : Rr X.K B H x dx) (hy : Rr X.K B H y dy) (e : inD dx dy = .ok bb) :
    (Q (.bl bb) H → wpAny (model X.prog X.w) X.A (compareOp .In v u) (EP X pins σ Q) X.xe s) ∧ (Q (.bl (!bb)) H → wpAny (model X.prog X.w) X.A (compareOp .NotIn v u) (EP X pins σ Q) X.xe s) := by
  have seq : ∀ ds, inSeq dx ds = .ok bb → (dy = .list ds ∨ dy = .tuple ds) → (Q (.bl bb) H → wpAny (model X.prog X.w) X.A (compareOp .In v u) (EP X pins σ Q) X.xe s) ∧ (Q (.bl (!bb)) H → wpAny (model X.prog X.w) X.A (compareOp .NotIn v u) (EP X pins σ Q) X.xe s) := by
    intro ds e hd
    obtain ⟨c1, c2, c3⟩ := inSeq_inv e
    have s8 : shD 8 dy = true := by
      rcases hd with rfl | rfl
      · exact c2
      · exact c2
    have hu : X.A.units + 65 < cLine := by
      have := hr.un
      omega
    obtain ⟨as, r1⟩ := Dp.reads I dx x v (hx.dp b (shD_all 7 _ c1).1) rx
    obtain ⟨bs, r2⟩ := Dp.reads I dy y u (hy.dp b (shD_all 8 _ s8).1) ry
    subst c3
    rcases hd with rfl | rfl
    · exact ⟨fun q => SeqAt.in_list_reads r2 r1 (SeqAt.canLay_of_shaped (shaped_of s8)) (SeqAt.canLay_of_shaped (shaped7 c1)) (room_in_shaped (shaped7 c1) hu) ⟨.bl _, H, I, rfl, q⟩,
        fun q => SeqAt.notIn_list_reads r2 r1 (SeqAt.canLay_of_shaped (shaped_of s8)) (SeqAt.canLay_of_shaped (shaped7 c1)) (room_in_shaped (shaped7 c1) hu) ⟨.bl _, H, I, rfl, q⟩⟩
    · exact ⟨fun q => SeqAt.in_tuple_reads r2 r1 (SeqAt.canLay_of_shaped (shaped_of s8)) (SeqAt.canLay_of_shaped (shaped7 c1)) (room_in_shaped (shaped7 c1) hu) ⟨.bl _, H, I, rfl, q⟩,
        fun q => SeqAt.notIn_tuple_reads r2 r1 (SeqAt.canLay_of_shaped (shaped_of s8)) (SeqAt.canLay_of_shaped (shaped7 c1)) (room_in_shaped (shaped7 c1) hu) ⟨.bl _, H, I, rfl, q⟩⟩
  cases dy with
  | list ds => exact seq ds (by cases dx <;> exact e) (.inl rfl)
  | tuple ds => exact seq ds (by cases dx <;> exact e) (.inr rfl)
  | str z =>
    cases dx with
    | str i =>
      have e : (match i.cps.toList with | [c] => R.ok (decide (c ∈ z.cps.toList)) | _ => .no) = .ok bb := e
      split at e
      · rename_i c hc
        cases e
        have hi := one_sign hc
        subst hi
        exact ⟨fun q => op_in_sign pins s σ H x y v u Q I rx ry ⟨c, z, hx.str, hy.str, q⟩, fun q => op_notIn_sign pins s σ H x y v u Q I rx ry ⟨c, z, hx.str, hy.str, q⟩⟩
      · cases e
    | none => cases e
    | bool _ => cases e
    | int _ => cases e
    | list _ => cases e
    | tuple _ => cases e
    | dict _ => cases e
  | none => cases dx <;> cases e
  | bool _ => cases dx <;> cases e
  | int _ => cases dx <;> cases e
  | dict _ => cases dx <;> cases e
end
end Mi

namespace Mi
open PySem PySem.Spec PyProof.Rows L2

def ddI : List Int → List Int
  | [] => []
  | x :: xs => if x ∈ xs then ddI xs else x :: ddI xs
theorem ddI_mem {y : Int} : ∀ {l : List Int}, y ∈ ddI l ↔ y ∈ l
  | [] => Iff.rfl
  | x :: l => by
    unfold ddI
    by_cases h : x ∈ l
    · rw [if_pos h, ddI_mem (l := l), List.mem_cons]
      constructor
      · exact .inr
      · rintro (rfl | q)
        · exact h
        · exact q
    · rw [if_neg h, List.mem_cons, List.mem_cons, ddI_mem (l := l)]
theorem ddI_nodup : ∀ l : List Int, (ddI l).Nodup
  | [] => List.nodup_nil
  | x :: l => by
    unfold ddI
    by_cases h : x ∈ l
    · rw [if_pos h]
      exact ddI_nodup l
    · rw [if_neg h]
      exact List.nodup_cons.mpr ⟨fun q => h (ddI_mem.mp q), ddI_nodup l⟩
theorem nodup_le : ∀ {l m : List Int}, l.Nodup → (∀ x ∈ l, x ∈ m) → l.length ≤ m.length
  | [], _, _, _ => Nat.zero_le _
  | x :: l, m, h, s => by
    obtain ⟨h1, h2⟩ := List.nodup_cons.mp h
    have hx := s x List.mem_cons_self
    have q := nodup_le (l := l) (m := m.erase x) h2 fun y hy => (List.mem_erase_of_ne (fun e => h1 (by rw [← e]; exact hy))).mpr (s y (List.mem_cons_of_mem _ hy))
    have e := List.length_erase_of_mem hx
    have : 0 < m.length := List.length_pos_of_mem hx
    rw [List.length_cons]
    omega
section
variable {cls : String → Value} {X : Cx} {W : WX}
theorem cr_setI (hc : X.calm = true) : CallR X (.type "set") (fun xs H Q => ∃ p ns, xs = [.ref p] ∧ SqT X.K H p (ns.map V.int) ∧ ns.length ≤ 1000 ∧ ∀ a, H a = none → Q (.ref a) (upd H a (SetO X.w a (fun j => decide (j ∈ ns)) (ddI ns).length))) := by
  intro pins s σ H xs us Q I r ⟨p, ns, e, hs, hl, q⟩
  subst e
  rw [Vals.ref1 r]
  obtain ⟨its, o, n, rv, ho, hcl, hd, hz⟩ := SqT.at I hs
  have hi := rv.ints
  refine call_set_tupI (items := its.toArray) ns (I.ok.hd hc) ⟨o, ho, hcl, n, hd⟩ (by rw [List.toList_toArray]; exact hi) (Nat.lt_of_le_of_lt (Nat.add_le_add_right hl 1) (by decide)) fun h' tk c R hle kp => ?_
  have ec : c = (ddI ns).length := by
    obtain ⟨o, es, ep, t, _, _, _, g, nd, hm, _, _, hn, _⟩ := R
    have hk : (es.toList.map keyOf).length = c := by rw [List.length_map, Array.length_toList, hn]
    rw [← hk]
    refine Nat.le_antisymm (nodup_le nd fun x hx => ddI_mem.mpr ?_) (nodup_le (ddI_nodup ns) fun x hx => (hm x).mp ?_)
    · exact of_decide_eq_true ((hm x).mpr hx)
    · exact decide_eq_true (ddI_mem.mp hx)
  subst ec
  exact ⟨.ref _, _, I.laid (t' := tk) kp (Nat.le_refl _) (setO_new R), rfl, q _ (I.hok.fresh (Nat.le_refl _))⟩
theorem cr_lenSet : CallR X (.builtin "len") (fun xs H Q => ∃ a S n, xs = [.ref a] ∧ H a = some (SetO X.w a S n) ∧ Q (.int (n : Nat)) H) := by
  intro pins s σ H xs us Q I r ⟨a, S, n, e, ha, q⟩
  subst e
  rw [Vals.ref1 r]
  obtain ⟨o, es, ep, t, ho, hx, hd, g, nd, hm, hb, hf, hn, _⟩ := setO_get I ha
  have : scanBound < 2 ^ 63 := by decide
  refine PySem.call_len_set ho hx hd hf (by omega) ⟨.int (n : Nat), H, I.tok _, ⟨s.toks + 1, by rw [hn]⟩, q⟩
def lsD : Da → R Da
  | .tuple ds => match intsD ds with
    | some ns => if ns.length ≤ 1000 then .ok (.int ((ddI ns).length : Nat)) else .no
    | none => .no
  | _ => .no
def eLs (f : Env → R Da) : Env → R Da := fun r => (f r).bind lsD
theorem de_lenSet {e : Expr} {f : Env → R Da} {p p2 pos pos2 : Pos} (hm : X.mg "len" = none) (hm2 : X.mg "set" = none) (ha : DR cls X W e f) (hc : X.calm = true := by rfl) (hg : Gl X "len" := by rfl) (hg2 : Gl X "set" := by rfl) (he : starEach [e] X.env = (false, eval e X.env) :: starEach [] X.env := by rfl)
    (he2 : starEach [.Call (.Name "set" p2) [e] [] pos2] X.env = (false, eval (.Call (.Name "set" p2) [e] [] pos2) X.env) :: starEach [] X.env := by rfl) : DE cls X W (.Call (.Name "len" p) [.Call (.Name "set" p2) [e] [] pos2] [] pos) (eLs f) := by
  obtain ⟨t, pt, h⟩ := ha.run
  refine ⟨_, pe_callB cr_lenSet hg hm (by decide +kernel) (pa_cons (pe_callTy (cr_setI hc) hg2 hm2 (by decide +kernel) (pa_cons pt pa_nil he) (by decide) (by decide) he rfl) pa_nil he2) (by decide) (by decide) he2 rfl, fun F B H σ r Q k p => h F B H σ r _ k (p.bind.imp fun d B1 H1 s1 p1 v hv => ?_)⟩
  cases d with
  | tuple ds =>
    have p1 : Pw cls B1 H1 σ W (WfE X.K Q) (match intsD ds with | some ns => if ns.length ≤ 1000 then .ok (.int ((ddI ns).length : Nat)) else .no | none => .no) := p1
    cases c : intsD ds with
    | none => rw [c] at p1; exact p1.elim
    | some ns =>
      rw [c] at p1
      have p3 : Pw cls B1 H1 σ W (WfE X.K Q) (if ns.length ≤ 1000 then .ok (.int ((ddI ns).length : Nat)) else .no) := p1
      by_cases c2 : ns.length ≤ 1000
      · rw [if_pos c2] at p3
        obtain ⟨a, xs, rfl, h1, _, h2⟩ := hv.tuple s1.bh
        rw [intsD_eq c] at h2
        rw [h2.ints] at h1
        exact ⟨a, ns, rfl, h1, c2, fun b hb => ⟨b, _, _, rfl, upd_same, p3 B1 _ (Stp.drop s1.bh hb) _ (.int _)⟩⟩
      · rw [if_neg c2] at p3
        exact p3.elim
  | none => exact p1.elim
  | bool _ => exact p1.elim
  | int _ => exact p1.elim
  | str _ => exact p1.elim
  | list _ => exact p1.elim
  | dict _ => exact p1.elim

def eNt (f : Env → R Da) : Env → R Da := fun r => (f r).bind fun d => (truthD d).bind fun b => .ok (.bool (!b))
theorem de_not {a : Expr} {f : Env → R Da} {pos : Pos} (ha : DR cls X W a f) : DE cls X W (.UnaryOp .Not a pos) (eNt f) := by
  obtain ⟨t, pt, h⟩ := ha.run
  refine ⟨_, pe_notT pt, fun F B H σ r Q k p => h F B H σ r _ k (p.bind.imp fun d B1 H1 s1 p1 v hv => ?_)⟩
  cases e : truthD d with
  | ok b =>
    rw [e] at p1
    exact ⟨b, truth_ok s1.bh hv e, p1 B1 H1 (Stp.refl s1.bh) _ (.bl _)⟩
  | er c => exact (truth_no d c e).elim
  | no =>
    rw [e] at p1
    exact p1.elim

def repD : Da → Da → R Da
  | .list ds, .int k => if k ≤ 100000 ∧ -100000 ≤ k ∧ ds.length * k.toNat ≤ 100000 then .ok (.list (List.replicate k.toNat ds).flatten) else .no
  | _, _ => .no
def eRep (f g : Env → R Da) : Env → R Da := fun r => (f r).bind fun x => (g r).bind fun y => repD x y
theorem rep_flat {K : PySem.W.Frag} {B : Hp} {xs : List V} {ds : List Da} (h : RepAll K B xs ds) : ∀ n : Nat, RepAll K B (List.replicate n xs).flatten (List.replicate n ds).flatten
  | 0 => .nil
  | n + 1 => by
    rw [List.replicate_succ, List.replicate_succ, List.flatten_cons, List.flatten_cons]
    exact h.append (rep_flat h n)
theorem df_rep {a b : Expr} {f g : Env → R Da} {pos : Pos} (ha : DF cls X W a f) (hb : DE cls X W b g) : DF cls X W (.BinOp a .Mult b pos) (eRep f g) := by
  obtain ⟨ta, pa, ha⟩ := ha.run
  obtain ⟨tb, pb, hb⟩ := hb.run
  refine ⟨_, pe_op op_rep pa pb, fun F B H σ r Q k p => ha F B H σ r _ k (p.bind.imp fun d B1 H1 s1 p1 a na ba oa => hb F B1 H1 σ r _ (k.stp s1) (p1.bind.imp fun e B2 H2 s2 p2 v hv => ?_))⟩
  cases d with
  | list ds =>
    cases e with
    | int m =>
      cases hv
      have p2 : Pw cls B2 H2 σ W (WfF X.K H Q) (if m ≤ 100000 ∧ -100000 ≤ m ∧ ds.length * m.toNat ≤ 100000 then .ok (.list (List.replicate m.toNat ds).flatten) else .no) := p2
      by_cases c : m ≤ 100000 ∧ -100000 ≤ m ∧ ds.length * m.toNat ≤ 100000
      · rw [if_pos c] at p2
        obtain ⟨xs, h1, h2⟩ := oa
        refine ⟨a, m, xs, rfl, rfl, s2.hh _ _ h1, by omega, by omega, by rw [h2.length]; exact sz c.2.2, fun l hl => ?_⟩
        exact p2 B2 _ (Stp.drop s2.bh hl) l (s1.hh.back (s2.hh.back hl)) (s2.bh.back hl) ⟨_, upd_same, rep_flat (h2.mono s2.gr.1) _⟩
      · rw [if_neg c] at p2
        exact p2.elim
    | none => exact p2.elim
    | bool _ => exact p2.elim
    | str _ => exact p2.elim
    | list _ => exact p2.elim
    | tuple _ => exact p2.elim
    | dict _ => exact p2.elim
  | none => exact p2.elim
  | bool _ => exact p2.elim
  | int _ => exact p2.elim
  | str _ => exact p2.elim
  | tuple _ => exact p2.elim
  | dict _ => exact p2.elim

end
end Mi

namespace Mi
open PySem PySem.Spec PyProof.Rows L2
structure DefX (cls : String → Value) (P : Program) (w : World) (K : PySem.W.Frag) (mg : Str → Option Value) (base : Heap) (x : Str) (st : Stmt) (k : Nat) (ps : List Str) (m : List Da → R Da) : Prop where
  ex : ∃ f fd, Fun K x x st f fd ∧ mg x = some (.ref f) ∧ FnOk P w K mg base (L2.CX P w) k f fd ps (spF K cls m)
theorem mkDefL {cls : String → Value} {P : Program} {w : World} {K : PySem.W.Frag} {mg : Str → Option Value} {base : Heap} {x : Str} {st : Stmt} {N ps : List Str} {k : Nat} {g : Env → SR} (R0 : Raw K mg x st) (S : FnScope N ps (defScope st))
    (hb : ∀ (kV doc pm : Value) (an : Option Addr) (cdv ct : Value) (us : List Value), us.length = ps.length → bindArgs (PySem.W.fnOf x x (defArgs st) (defBody st) (defScope st) .none kV doc pm an cdv ct) ⟨us, []⟩ = pure (ps.zip us))
    (body : ∀ (X : Cx) (E : XK) (f : Addr) (cdv : Value) (A : Around) (outer : List PySem.Env) (s : Shared) (H : Hp), X = cxOf (L2.CX P w) P w K mg base N x (defScope st) f cdv A outer s H E → Room k X.A → Takes X (fun c d _ H => E c d H) → PassesOwn (model X.prog X.w) X.A X.env X.xe →
      DSs cls X (fun c d _ H => E c d H) (defBody st) g) : DefX cls P w K mg base x st (k + 1) ps (fnD ps.length N.length g) := ⟨mkDefX R0 S hb body⟩
section
variable {cls : String → Value} {X : Cx} {W : WX}
def negD : Da → R Da
  | .int i => .ok (.int (-i))
  | _ => .no
def eNeg (f : Env → R Da) : Env → R Da := fun r => (f r).bind negD
theorem de_neg {a : Expr} {f : Env → R Da} {pos : Pos} (ha : DR cls X W a f) : DE cls X W (.UnaryOp .USub a pos) (eNeg f) := by
  obtain ⟨t, pt, h⟩ := ha.run
  refine ⟨_, pe_un un_neg pt, fun F B H σ r Q k p => h F B H σ r _ k (p.bind.imp fun d B1 H1 s1 p1 v hv => ?_)⟩
  cases d with
  | int i => exact ⟨i, hv.int, p1 B1 H1 (Stp.refl s1.bh) _ (.int _)⟩
  | none => exact p1.elim
  | bool _ => exact p1.elim
  | str _ => exact p1.elim
  | list _ => exact p1.elim
  | tuple _ => exact p1.elim
  | dict _ => exact p1.elim
end
end Mi

namespace Mi
open PySem PySem.Spec PyProof.Rows L2
def subJ (c x : String) : Bool := c == x || x == "JumpError"
def noEr : SR → SR
  | .er _ _ => .no
  | x => x
def hdF (c : String) (r : Env) : List (String × (Env → SR)) → SR
  | [] => .er c r
  | (x, g) :: hs => if subJ c x then noEr (g r) else hdF c r hs
section
variable {cls : String → Value} {X : Cx} {W : WX}
def cSs (K : PySem.W.Frag) (cls : String → Value) (W : WX) (g : Env → SR) : TS := fun D σ H => ∃ F B r, Ok K F B H σ r ∧ Ps K cls F B D W (g r)
theorem DSs.pss {sts : List Stmt} {g : Env → SR} (h : DSs cls X W sts g) : PSs X sts (cSs X.K cls W g) := by
  obtain ⟨t, pt, h⟩ := h.run
  exact ⟨fun pins s σ H D I ⟨F, B, r, k, p⟩ => pt.run pins s σ H D I (h F B H σ r D k p)⟩
structure DHs (cls : String → Value) (X : Cx) (L : List String) (hds : List ExceptHandler) (hs : List (String × (Env → SR))) : Prop where
  run : ∃ l, HdsOk X hds l ∧ ∀ (F B H : Hp) (σ : L2.St) (r : Env) (D : Ends) (Wout : WX) (c : String), c ∈ L → Ok X.K F B H σ r → Ps X.K cls F B D Wout (hdF c r hs) → wMany X.K Wout D l (cls c) none σ H
theorem Ps.noEr {K : PySem.W.Frag} {F B : Hp} {D : Ends} {W W' : WX} {x : SR} (p : Ps K cls F B D W (noEr x)) : Ps K cls F B D W' x := by
  cases x with
  | nx r => exact p
  | rt d => exact p
  | bk r => exact p
  | ct r => exact p
  | er c r => exact p.elim
  | no => exact p.elim
def catD : Da → Da → R Da
  | .list xs, .list ys => if xs.length + ys.length ≤ 100000 then .ok (.list (xs ++ ys)) else .no
  | _, _ => .no
def eCat (f g : Env → R Da) : Env → R Da := fun r => (f r).bind fun x => (g r).bind fun y => catD x y
theorem op_catN {k : Nat} : OpR X (binaryOp .Add) (fun x y H Q => ∃ a b xs zs, x = .ref a ∧ y = .ref b ∧ SqL X.K H a xs ∧ SqL X.K H b zs ∧ xs.length + zs.length ≤ sizeLine ∧ ∀ p, H p = none → Q (.ref p) (upd H p (.lst (xs ++ zs)))) := by
  intro pins s σ H x y v u Q I rx ry ⟨a, b, xs, zs, ex, ey, ha, hb, hz, q⟩
  subst ex ey
  cases rx
  cases ry
  exact catL I ha hb hz q
theorem df_cat {a b : Expr} {f g : Env → R Da} {pos : Pos} (ha : DR cls X W a f) (hb : DR cls X W b g) : DF cls X W (.BinOp a .Add b pos) (eCat f g) := by
  obtain ⟨ta, pa, ha⟩ := ha.run
  obtain ⟨tb, pb, hb⟩ := hb.run
  refine ⟨_, pe_op (op_catN (k := 0)) pa pb, fun F B H σ r Q k p => ha F B H σ r _ k (p.bind.imp fun d B1 H1 s1 p1 v hv => hb F B1 H1 σ r _ (k.stp s1) (p1.bind.imp fun e B2 H2 s2 p2 w hw => ?_))⟩
  cases d with
  | list xs =>
    cases e with
    | list ys =>
      have p2 : Pw cls B2 H2 σ W (WfF X.K H Q) (if xs.length + ys.length ≤ 100000 then .ok (.list (xs ++ ys)) else .no) := p2
      by_cases c : xs.length + ys.length ≤ 100000
      · rw [if_pos c] at p2
        obtain ⟨a, vs, ea, h1, h2⟩ := (hv.stp s2).list s2.bh
        obtain ⟨b, ws, eb, h3, h4⟩ := hw.list s2.bh
        have l1 := h2.length
        have l2 := h4.length
        exact ⟨a, b, vs, ws, ea, eb, h1, h3, sz (by omega), fun l hl => p2 B2 _ (Stp.drop s2.bh hl) l (s1.hh.back (s2.hh.back hl)) (s2.bh.back hl) ⟨_, upd_same, h2.append h4⟩⟩
      · rw [if_neg c] at p2
        exact p2.elim
    | none => exact p2.elim
    | bool _ => exact p2.elim
    | int _ => exact p2.elim
    | str _ => exact p2.elim
    | tuple _ => exact p2.elim
    | dict _ => exact p2.elim
  | none => exact p2.elim
  | bool _ => exact p2.elim
  | int _ => exact p2.elim
  | str _ => exact p2.elim
  | tuple _ => exact p2.elim
  | dict _ => exact p2.elim
end
end Mi

namespace Mi
open PySem PySem.Spec PyProof.Rows L2
def eqK : Da → Da → Bool
  | .int i, .int j => decide (i = j)
  | .str x, .str y => decide (x = y)
  | _, _ => false
def isKy : Da → Bool
  | .int _ => true
  | .str _ => true
  | _ => false
def valD (kds : List (Da × Da)) (k : Da) : Option Da := match kds with
  | [] => none
  | kv :: r => if eqK kv.1 k then some kv.2 else valD r k
def hasD (kds : List (Da × Da)) (k : Da) : Bool := match kds with
  | [] => false
  | kv :: r => eqK kv.1 k || hasD r k
def chgD (kds : List (Da × Da)) (k v : Da) : List (Da × Da) := match kds with
  | [] => []
  | kv :: r => (if eqK kv.1 k then (kv.1, v) else kv) :: chgD r k v
def putD (kds : List (Da × Da)) (k v : Da) : List (Da × Da) := if hasD kds k then chgD kds k v else kds ++ [(k, v)]
theorem eqK_kD (a b : Key) : eqK (kD a) (kD b) = decide (a = b) := by
  cases a with
  | inl i =>
    cases b with
    | inl j =>
      show decide (i = j) = _
      exact decide_eq_decide.mpr ⟨fun h => by rw [h], fun h => by cases h; rfl⟩
    | inr y =>
      show false = _
      exact (decide_eq_false (fun h => by cases h)).symm
  | inr x =>
    cases b with
    | inl j =>
      show false = _
      exact (decide_eq_false (fun h => by cases h)).symm
    | inr y =>
      show decide (x = y) = _
      exact decide_eq_decide.mpr ⟨fun h => by rw [h], fun h => by cases h; rfl⟩
section
variable {K : PySem.W.Frag} {B H : Hp}
theorem kv_val {k : Key} : ∀ {kvs : List (Key × V)} {kds : List (Da × Da)}, RepKV K B kvs kds → match valD kds (kD k) with
    | some d => ∃ v, valV kvs k = some v ∧ Rep K B v d
    | none => valV kvs k = none
  | _, _, .nil => rfl
  | _, _, .cons (k := k') (v := v) (vs := vs) (d := d) (ds := ds) h r => by
    unfold valD
    show match (if eqK (kD k') (kD k) then some d else valD ds (kD k)) with | some d => _ | none => _
    rw [eqK_kD]
    by_cases c : k' = k
    · rw [decide_eq_true c, if_pos rfl]
      exact ⟨v, valV_pos c, h⟩
    · rw [decide_eq_false c, if_neg Bool.false_ne_true, valV_neg (p := (k', v)) c]
      exact kv_val r
theorem kv_has {k : Key} : ∀ {kvs : List (Key × V)} {kds : List (Da × Da)}, RepKV K B kvs kds → (valV kvs k).isSome = hasD kds (kD k)
  | _, _, .nil => rfl
  | _, _, .cons (k := k') (v := v) (vs := vs) (d := d) (ds := ds) h r => by
    show _ = (eqK (kD k') (kD k) || hasD ds (kD k))
    rw [eqK_kD]
    by_cases c : k' = k
    · rw [decide_eq_true c, valV_pos (p := (k', v)) c]
      rfl
    · rw [decide_eq_false c, valV_neg (p := (k', v)) c]
      exact kv_has r
theorem kv_chg {k : Key} {v : V} {d : Da} (hv : Rep K B v d) : ∀ {kvs : List (Key × V)} {kds : List (Da × Da)}, RepKV K B kvs kds → RepKV K B (kvs.map fun kv => if kv.1 = k then (kv.1, v) else kv) (chgD kds (kD k) d)
  | _, _, .nil => .nil
  | _, _, .cons (k := k') (v := v') (vs := vs) (d := d') (ds := ds) h r => by
    rw [List.map_cons]
    show RepKV K B _ ((if eqK (kD k') (kD k) then (kD k', d) else (kD k', d')) :: chgD ds (kD k) d)
    rw [eqK_kD]
    by_cases c : k' = k
    · rw [if_pos c, decide_eq_true c, if_pos rfl]
      exact .cons hv (kv_chg hv r)
    · rw [if_neg c, decide_eq_false c, if_neg Bool.false_ne_true]
      exact .cons h (kv_chg hv r)
theorem RepKV.app : ∀ {kvs ws : List (Key × V)} {kds es : List (Da × Da)}, RepKV K B kvs kds → RepKV K B ws es → RepKV K B (kvs ++ ws) (kds ++ es)
  | _, _, _, _, .nil, s => s
  | _, _, _, _, .cons h r, s => .cons h (RepKV.app r s)
theorem kv_put {k : Key} {v : V} {d : Da} (hv : Rep K B v d) {kvs : List (Key × V)} {kds : List (Da × Da)} (h : RepKV K B kvs kds) : RepKV K B (putK kvs k v) (putD kds (kD k) d) := by
  unfold putK putD
  rw [valV_any, kv_has h]
  by_cases c : hasD kds (kD k) = true
  · rw [if_pos c, if_pos c]
    exact kv_chg hv h
  · rw [if_neg c, if_neg c]
    exact h.app (.cons hv .nil)
theorem key_of {v : V} {d : Da} (h : Rr K B H v d) (e : isKy d = true) : ∃ k : Key, v = kV k ∧ d = kD k := by
  cases d with
  | int i => exact ⟨.inl i, h.int, rfl⟩
  | str x => exact ⟨.inr x, h.str, rfl⟩
  | none => cases e
  | bool _ => cases e
  | list _ => cases e
  | tuple _ => cases e
  | dict _ => cases e
end

section
variable {cls : String → Value} {X : Cx} {W : WX}
def frzA (i : Nat) (r : Env) : Env := match r[i]? with
  | some (.ow d) => r.set i (.fz d)
  | _ => r
def sFrzA (i : Nat) (g : Env → SR) : Env → SR := fun r => g (frzA i r)
def tLk (t : TS) : TS := fun D σ H => t D σ H ∨ ∃ d u, H d = some u ∧ Mut (some u) ∧ ∀ od, t D σ (upd H d (.frz od u))
theorem ps_lk {st : Stmt} {t : TS} (h : PS X st t) : PS X st (tLk t) := by
  refine ⟨fun pins s σ H D I p => ?_⟩
  rcases p with p | ⟨d, u, e, mu, p⟩
  · exact h.run pins s σ H D I p
  · obtain ⟨od, I'⟩ := I.lock e mu
    exact h.run pins s σ _ D I' (p od)
theorem lk_run {t : TS} {g : Env → SR} {F B H : Hp} {σ : L2.St} {r : Env} {D : Ends} (i : Nat) (h : ∀ (F B H : Hp) (σ : L2.St) (r : Env) (D : Ends), Ok X.K F B H σ r → Ps X.K cls F B D W (g r) → t D σ H) (k : Ok X.K F B H σ r) (p : Ps X.K cls F B D W (sFrzA i g r)) : tLk t D σ H := by
  unfold sFrzA frzA at p
  split at p
  · rename_i d e
    obtain ⟨a, h1, b1, b2, b3⟩ := k.sl i _ e
    cases d with
    | list ds =>
      obtain ⟨xs, c1, c2⟩ := b3
      have l : Le B (upd B a (.lst xs)) := Le.new b2
      obtain ⟨gr, k'⟩ := k.frz (H' := H) (o := .lst xs) (d := .list ds) e h1 b2 b1 c1 (fun _ _ => rfl) (.lst (.inl (.inl upd_same)) (c2.mono l))
      exact .inl (h F _ H σ _ D k' (Ps.gr p gr))
    | dict kds =>
      obtain ⟨kvs, c1, c2⟩ := b3
      refine .inr ⟨a, _, c1, trivial, fun od => ?_⟩
      have l : Le B (upd B a (.frz od (.dK kvs))) := Le.new b2
      obtain ⟨gr, k'⟩ := k.frz (H' := upd H a (.frz od (.dK kvs))) (o := .frz od (.dK kvs)) (d := .dict kds) e h1 b2 b1 upd_same (fun _ ne => upd_ne ne) (.dct upd_same (c2.mono l))
      exact h F _ _ σ _ D k' (Ps.gr p gr)
    | none => exact b3.elim
    | bool _ => exact b3.elim
    | int _ => exact b3.elim
    | str _ => exact b3.elim
    | tuple _ => exact b3.elim
  · exact .inl (h F B H σ r D k p)
theorem ds_frzA (i : Nat) {st : Stmt} {g : Env → SR} (h : DS cls X W st g) : DS cls X W st (sFrzA i g) := by
  obtain ⟨t, pt, h⟩ := h.run
  exact ⟨_, ps_lk pt, fun F B H σ r D k p => lk_run i h k p⟩
def pNil : Env → R (List (Da × Da)) := fun _ => .ok []
def pCons (f g : Env → R Da) (h : Env → R (List (Da × Da))) : Env → R (List (Da × Da)) := fun r => (f r).bind fun k => (g r).bind fun v => (h r).bind fun ps => if isKy k then .ok ((k, v) :: ps) else .no
def mrgD (acc : List (Da × Da)) : List (Da × Da) → List (Da × Da)
  | [] => acc
  | p :: r => mrgD (putD acc p.1 p.2) r
def eDis (f : Env → R (List (Da × Da))) : Env → R Da := fun r => (f r).bind fun ps => if ps.length ≤ 15 then .ok (.dict (mrgD [] ps)) else .no
structure DPs (cls : String → Value) (X : Cx) (W : WX) (pos : Pos) (ks : List (Option Expr)) (vs : List Expr) (f : Env → R (List (Da × Da))) : Prop where
  run : ∃ trs, PPs X pos ks vs trs ∧ ks.length = vs.length ∧ ks.all (·.isSome) = true ∧ ∀ (F B H : Hp) (σ : L2.St) (r : Env) (Q : List (V × V) → Hp → Prop), Ok X.K F B H σ r → Pw cls B H σ W (fun ps B' H' => ∀ kvs, RepKV X.K B' kvs ps → Q (kvs.map fun kv => (kV kv.1, kv.2)) H') (f r) → tPairs trs σ H Q
theorem mrg_rep {K : PySem.W.Frag} {B : Hp} : ∀ {kvs : List (Key × V)} {ps : List (Da × Da)} {acc : List (Key × V)} {ac : List (Da × Da)}, RepKV K B kvs ps → RepKV K B acc ac → RepKV K B (mergeK acc kvs) (mrgD ac ps)
  | _, _, _, _, .nil, h => h
  | _, _, _, _, .cons h r, q => by
    show RepKV K B (mergeK (putK _ _ _) _) (mrgD (putD _ _ _) _)
    exact mrg_rep r (kv_put h q)
def sDput (i : Nat) (fi fv : Env → R Da) : Env → SR := fun r => match r[i]? with
  | some (.ow (.dict kds)) => bS r (fv r) fun d => bS r (fi r) fun k => if isKy k && decide (kds.length < 100000) then .nx (r.set i (.ow (.dict (putD kds k d)))) else .no
  | _ => .no
def inDD (x : Da) (kds : List (Da × Da)) : R Bool := if isKy x then .ok (hasD kds x) else .no
def inX : Da → Da → R Bool
  | x, .dict kds => inDD x kds
  | x, y => inD x y
def dIn' (x y : Da) : R Da := (inX x y).bind fun b => .ok (.bool b)
def dNotIn' (x y : Da) : R Da := (inX x y).bind fun b => .ok (.bool (!b))
theorem inX_run {pins : List (Addr × Obj)} {s : Shared} {σ : L2.St} {B H : Hp} {x y : V} {v u : Value} {dx dy : Da} {bb : Bool} {Q : VK} {k : Nat} (hr : Room k X.A) (I : Inv X pins σ H s) (rx : RelV x v) (ry : RelV y u) (b : Le B H) (hx : Rr X.K B H x dx) (hy : Rr X.K B H y dy) (e : inX dx dy = .ok bb) :
    (Q (.bl bb) H → wpAny (model X.prog X.w) X.A (compareOp .In v u) (EP X pins σ Q) X.xe s) ∧ (Q (.bl (!bb)) H → wpAny (model X.prog X.w) X.A (compareOp .NotIn v u) (EP X pins σ Q) X.xe s) := by
  cases dy with
  | dict kds =>
    have e : (if isKy dx then R.ok (hasD kds dx) else .no) = .ok bb := e
    by_cases c : isKy dx = true
    · rw [if_pos c] at e
      cases e
      obtain ⟨kk, e1, e2⟩ := Mi.key_of hx c
      subst e1 e2
      obtain ⟨a, kvs, rfl, h1, h2⟩ := hy.dict b
      cases ry
      have hu : X.A.units + 1 < cLine := by
        have := hr.units
        omega
      have g : DGet H a (kV kk) (valV kvs kk) := .inl ⟨kvs, kk, h1, rfl, rfl⟩
      rw [← kv_has h2]
      exact ⟨fun q => d_in hu I g rx fun s' I' => ⟨.bl _, H, I', rfl, q⟩, fun q => d_notIn hu I g rx fun s' I' => ⟨.bl _, H, I', rfl, q⟩⟩
    · rw [if_neg c] at e
      cases e
  | list _ => exact in_run hr I rx ry b hx hy e
  | tuple _ => exact in_run hr I rx ry b hx hy e
  | str _ => exact in_run hr I rx ry b hx hy e
  | none => exact in_run hr I rx ry b hx hy e
  | bool _ => exact in_run hr I rx ry b hx hy e
  | int _ => exact in_run hr I rx ry b hx hy e
theorem o_notIn' {k : Nat} (hr : Room k X.A) : OpR X (compareOp .NotIn) (rD X.K dNotIn') :=
  opD fun pins s σ B H x y v u dx dy d Q I rx ry b hx hy e q => by
    unfold dNotIn' at e
    cases c : inX dx dy with
    | ok bb =>
      rw [c] at e
      cases e
      exact (inX_run hr I rx ry b hx hy c).2 (q B H _ (Stp.refl b) (.bl _))
    | er _ => rw [c] at e; cases e
    | no => rw [c] at e; cases e
def itD (kds : List (Da × Da)) (k : Da) : R Da := if isKy k then (match valD kds k with | some d => .ok d | none => .no) else .no
def dItem' : Da → Da → R Da
  | .dict kds, k => itD kds k
  | x, y => dItem x y
theorem ix_ok' {k : Nat} (hr : Room k X.A) : IxR X (rD X.K dItem') := by
  intro va sl pins s σ H x y v u Q I rx ry ⟨B, dx, dy, d, b, hx, hy, e, q⟩ hsb
  cases dx with
  | dict kds =>
    have e : (if isKy dy then (match valD kds dy with | some d => R.ok d | none => .no) else .no) = .ok d := e
    by_cases c : isKy dy = true
    · rw [if_pos c] at e
      obtain ⟨kk, e1, e2⟩ := Mi.key_of hy c
      subst e1 e2
      obtain ⟨a, kvs, rfl, h1, h2⟩ := hx.dict b
      cases rx
      have hv := kv_val (k := kk) h2
      cases c2 : valD kds (kD kk) with
      | none => rw [c2] at e; cases e
      | some d' =>
        rw [c2] at e hv
        cases e
        obtain ⟨w', g1, g2⟩ := hv
        have hu : X.A.units + 1 < cLine := by
          have := hr.units
          omega
        have ti := (isD_at I (.inl ⟨kvs, h1⟩)).1
        exact tail_any ti slot_dict_getitem.lookup (d_getItem hu I (.inl ⟨kvs, kk, h1, rfl, g1.symm⟩) ry fun w2 s' I' rw' => ⟨w', H, I', rw', q B H _ (Stp.refl b) g2⟩) hsb
    · rw [if_neg c] at e
      cases e
  | list _ => exact ix_ok va sl pins s σ H x y v u Q I rx ry ⟨B, _, dy, d, b, hx, hy, e, q⟩ hsb
  | tuple _ => exact ix_ok va sl pins s σ H x y v u Q I rx ry ⟨B, _, dy, d, b, hx, hy, e, q⟩ hsb
  | str _ => exact ix_ok va sl pins s σ H x y v u Q I rx ry ⟨B, _, dy, d, b, hx, hy, e, q⟩ hsb
  | none => exact ix_ok va sl pins s σ H x y v u Q I rx ry ⟨B, _, dy, d, b, hx, hy, e, q⟩ hsb
  | bool _ => exact ix_ok va sl pins s σ H x y v u Q I rx ry ⟨B, _, dy, d, b, hx, hy, e, q⟩ hsb
  | int _ => exact ix_ok va sl pins s σ H x y v u Q I rx ry ⟨B, _, dy, d, b, hx, hy, e, q⟩ hsb
theorem de_item' {k : Nat} (hr : Room k X.A) {a b : Expr} {fa fb : Env → R Da} {pos : Pos} (ha : DR cls X W a fa) (hb : DR cls X W b fb) (hs : PlainIx b := by exact fun _ _ => rfl) : DE cls X W (.Subscript a b pos) (eBin dItem' fa fb) := by
  obtain ⟨ta, pa, ha⟩ := ha.run
  obtain ⟨tb, pb, hb⟩ := hb.run
  exact ⟨_, pe_ix (ix_ok' hr) pa pb hs, fun F B H σ r Q k p => run2 ha hb k p⟩
end
end Mi

namespace Mi
open PySem PySem.Spec PyProof.Rows L2
section
variable {prog : Program} {w : World} {A : Around} {E : Value → Shared → Prop} {s : Shared} {v : Value} {Q : Value → Shared → Prop}
end
section
variable {cls : String → Value} {X : Cx} {W : WX}
def pr1 : Da → Option (Da × Da)
  | .tuple [k, v] => if isKy k then some (k, v) else none
  | _ => none
def prD : List Da → Option (List (Da × Da))
  | [] => some []
  | d :: r => match pr1 d with
    | none => none
    | some p => match prD r with
      | none => none
      | some ps => some (p :: ps)
theorem pr1_inv {d : Da} {p : Da × Da} (e : pr1 d = some p) : isKy p.1 = true ∧ d = .tuple [p.1, p.2] := by
  unfold pr1 at e
  split at e
  · rename_i k v
    by_cases c : isKy k = true
    · rw [if_pos c] at e
      cases e
      exact ⟨c, rfl⟩
    · rw [if_neg c] at e
      cases e
  · cases e
def dictD : Da → R Da
  | .list ds => match prD ds with
    | some ps => .ok (.dict (mrgD [] ps))
    | none => .no
  | _ => .no
theorem pr_of {K : PySem.W.Frag} {B H : Hp} (b : Le B H) : ∀ {xs : List V} {ds : List Da} {ps : List (Da × Da)}, RepAll K B xs ds → prD ds = some ps → ∃ (as : List Addr) (kvs : List (Key × V)), xs = as.map V.ref ∧ Paired (fun p kv => SqT K H p [kV kv.1, kv.2]) as kvs ∧ RepKV K B kvs ps
  | _, _, _, .nil, e => by
    cases e
    exact ⟨[], [], rfl, .nil, .nil⟩
  | x :: _, d :: ds, ps, .cons h r, e => by
    have e : (match pr1 d with | none => none | some p => match prD ds with | none => none | some ps => some (p :: ps)) = some ps := e
    cases q1 : pr1 d with
    | none => rw [q1] at e; cases e
    | some p =>
      rw [q1] at e
      have e : (match prD ds with | none => none | some ps => some (p :: ps)) = some ps := e
      cases q : prD ds with
      | none => rw [q] at e; cases e
      | some ps' =>
        rw [q] at e
        cases e
        obtain ⟨as, kvs, e1, e2, e3⟩ := pr_of b r q
        obtain ⟨c, ed⟩ := pr1_inv q1
        obtain ⟨pk, pv⟩ := p
        subst ed
        cases h with
        | tup ht hr =>
          cases hr with
          | cons h1 hr =>
            cases hr with
            | cons h2 hr =>
              cases hr
              obtain ⟨kk, ek, ek2⟩ := Mi.key_of (.inl h1 : Rr K B H _ pk) c
              subst ek ek2
              exact ⟨_ :: as, (kk, _) :: kvs, by rw [e1]; rfl, .cons (b.st ht.sq) e2, .cons h2 e3⟩
theorem c_dict (hcalm : X.calm = true) : CallR X (.type "dict") (rFc X.K (d1 dictD)) := callF1 fun pins s σ B H x d0 d us Q I r b h1 e q => by
  cases d0 with
  | list ds =>
    have e : (match prD ds with | some ps => R.ok (PyData.dict (mrgD [] ps)) | none => .no) = .ok d := e
    cases c : prD ds with
    | none => rw [c] at e; cases e
    | some ps =>
      rw [c] at e
      cases e
      obtain ⟨p, xs, rfl, h2, h3⟩ := h1.list b
      obtain ⟨as, kvs, e1, e2, e3⟩ := pr_of b h3 c
      subst e1
      exact call_dictP hcalm pins s σ H _ us Q I r ⟨p, as, kvs, rfl, h2, e2, fun a ha => q B _ a (Stp.drop b ha) ha (b.back ha) ⟨_, upd_same, mrg_rep e3 .nil⟩⟩
  | none => cases e
  | bool _ => cases e
  | int _ => cases e
  | str _ => cases e
  | tuple _ => cases e
  | dict _ => cases e

def listD' : Da → R Da
  | .str z => if z.length ≤ 100000 then .ok (.list (sgD z)) else .no
  | d => listD d
theorem c_list' (hcalm : X.calm = true) : CallR X (.type "list") (rFc X.K (d1 listD')) := callF1 fun pins s σ B H x d0 d us Q I r b h1 e q => by
  have old : listD d0 = .ok d → wpAny (model X.prog X.w) X.A (call (.type "list") us) (EP X pins σ Q) X.xe s := fun e => c_list pins s σ H [x] us Q I r ⟨B, [d0], d, b, .cons h1 .nil, e, q⟩
  cases d0 with
  | str z =>
    have e : (if z.length ≤ 100000 then R.ok (PyData.list (sgD z)) else .no) = .ok d := e
    by_cases c : z.length ≤ 100000
    · rw [if_pos c] at e
      cases e
      rw [h1.str] at r
      obtain ⟨u, rfl, t, rfl⟩ := vals1 r
      refine PySem.call_list_str (I.ok.hd hcalm) z t (fun h' tk acc c' keep eo hacc => ?_) (sz c)
      have rv : Vals (sgV z) acc.toList := by
        have hl : acc.toList.length = (sgV z).length := by rw [Array.length_toList, hacc.1, sgV_len]
        have gen : ∀ (us : List Value) (vs : List V), us.length = vs.length → (∀ (j : Nat) (u : Value) (v : V), us[j]? = some u → vs[j]? = some v → RelV v u) → Vals vs us := by
          intro us
          induction us with
          | nil =>
            intro vs hl _
            cases vs with
            | nil => exact .nil
            | cons _ _ => cases hl
          | cons u us ih =>
            intro vs hl h
            cases vs with
            | nil => cases hl
            | cons v vs => exact .cons (h 0 u v rfl rfl) (ih vs (by simpa using hl) fun j u' v' a b => h (j + 1) u' v' (by simpa using a) (by simpa using b))
        refine gen _ _ hl fun j u v hu hv => ?_
        obtain ⟨c0, t0, ec, eu⟩ := hacc.2 j u (by rw [← Array.getElem?_toList]; exact hu)
        rw [sgV_get ec] at hv
        cases hv
        exact ⟨t0, eu⟩
      refine ⟨.ref _, _, I.laid (t' := tk) keep (Nat.le_refl _) (show ObjOk X.prog X.w _ h' _ (.lst (sgV z)) from ⟨?_, acc.toList, c', rv, by rw [Array.toArray_toList]; exact eo⟩), rfl, q B _ _ (Stp.drop b (I.hok.fresh (Nat.le_refl _))) (I.hok.fresh (Nat.le_refl _)) (b.back (I.hok.fresh (Nat.le_refl _))) ⟨_, upd_same, rep_sg z⟩⟩
      rw [sgV_len]
      exact sz c
    · rw [if_neg c] at e
      cases e
  | list _ => exact old e
  | tuple _ => exact old e
  | none => cases e
  | bool _ => cases e
  | int _ => cases e
  | dict _ => cases e
end
end Mi

namespace Mi
open PySem PySem.Spec PyProof.Rows L2

section
variable {prog : Program} {w : World} {A : Around} {E : Value → Shared → Prop}
theorem draw_ascii {it : Addr} {z : Str} {t : Tok} : ∀ (n i : Nat) (s : Shared) (Q : List Value → Shared → Prop), s.heap.IsStrIter it "str_ascii_iterator" z t i → i + n ≤ z.cps.size →
    (∀ h' tk us, h'.IsStrIter it "str_ascii_iterator" z t (i + n) → Heap.SameBut it s.heap h' → Vals (((sgV z).drop i).take n) us → Q us { s with heap := h', toks := tk }) → wpAny (model prog w) A (draw (.ref it) n) Q E s
  | 0, i, s, Q, hit, _, hQ => by
    show wpAny _ _ (pure []) Q E s
    exact wpAny_pure (by simpa using hQ s.heap s.toks [] hit (Heap.SameBut.refl ..) (by rw [List.take_zero]; exact .nil))
  | n + 1, i, s, Q, hit, hle, hQ => by
    have hlt : i < z.cps.size := by omega
    show wpAny _ _ (pyNext (.ref it) >>= _) Q E s
    refine wpAny_bind (wpAny_pyNext_ascii_item hit (c := z.cps[i]) (by simp [hlt]) fun h₁ hit₁ hs₁ => ?_)
    refine wpAny_bind (wpAny_holding (draw_ascii n (i + 1) _ _ hit₁ (by omega) fun h₂ tk us hit₂ hs₂ hv => wpAny_pure ?_))
    have hd : (sgV z).drop i = V.str ⟨#[z.cps[i]]⟩ :: (sgV z).drop (i + 1) := by
      have hl : i < (sgV z).length := by rw [sgV_len]; exact hlt
      rw [List.drop_eq_getElem_cons hl]
      have q := sgV_get (z := z) (i := i) (c := z.cps[i]) (by simp [hlt])
      rw [List.getElem?_eq_getElem hl] at q
      rw [Option.some.inj q]
    refine hQ h₂ tk _ (by rw [show i + (n + 1) = i + 1 + n by omega]; exact hit₂) (hs₁.trans hs₂) ?_
    rw [hd, List.take_succ_cons]
    exact .cons ⟨_, rfl⟩ hv
theorem unpackItems_ascii {s : Shared} {z : Str} {t : Tok} {Q : List Value → Shared → Prop} (hh : A.handled = none) (ha : z.cps.all (· < 128) = true)
    (hQ : ∀ h' tk us, (∀ b o, s.heap.get? b = some o → h'.get? b = some o) → Vals (sgV z) us → Q us { s with heap := h', toks := tk }) : wpAny (model prog w) A (unpackItems (.str z t) z.cps.size none) Q E s := by
  unfold unpackItems
  refine wpAny_bind ?_
  · unfold notIterableAtAll
    refine wpAny_bind (wpAny_specialOf (typeIs_str s z t) PySem.F.slot_str_iter.lookup ?_)
    refine wpAny_pure ?_
    simp only [Bool.false_eq_true, if_false]
    refine wpAny_bind (wpAny_holding (wpAny_pyIter_ascii ha ?_))
    refine wpAny_bind (wpAny_holding (draw_ascii z.cps.size 0 _ _ ⟨_, Heap.get?_push_size _ rfl, rfl, rfl⟩ (by omega) fun h₁ tk us hit₁ hs₁ hv => ?_))
    have hall : ((sgV z).drop 0).take z.cps.size = sgV z := by
      rw [List.drop_zero]
      exact List.take_of_length_le (by rw [sgV_len]; exact Nat.le_refl _)
    rw [hall] at hv
    have hul : us.length = z.cps.size := by rw [← hv.length, sgV_len]
    rw [if_neg (by rw [hul]; exact Nat.lt_irrefl _)]
    refine wpAny_bind (wpAny_holding (wpAny_pyNext_ascii_end hh hit₁ (by simp) fun h₂ he₂ => ?_))
    simp only [Option.isSome_none, Bool.false_eq_true, if_false]
    refine wpAny_pure (hQ h₂ tk us (fun b o e => ?_) hv)
    have hb : b ≠ s.heap.objs.size := Nat.ne_of_lt (Heap.lt_size e)
    exact he₂ b o hb (hs₁.extBut b o hb (Heap.get?_push_of_some _ e))
end
section
variable {cls : String → Value} {X : Cx} {W : WX}
def gTupS (n : Nat) (t : TGs) : TG := fun v σ H Q => ∃ z : Str, v = .str z ∧ z.cps.all (· < 128) = true ∧ z.cps.size = n ∧ t (sgV z) σ H Q
theorem pg_tupS {es : List Expr} {k : Nat} {t : TGs} {n : Nat} {pos : Pos} (hc : X.calm = true) (h : PGs X es t) (hn : (assignEach es X.env).length = n := by rfl) (hst : (assignEach es X.env).findIdx? (·.1) = none := by rfl) : PG X (.Tuple es k pos) (gTupS n t) := by
  refine ⟨fun pins s σ H v u Q I r hw => ?_⟩
  obtain ⟨z, e1, ha, hl, hw⟩ := hw
  subst e1
  obtain ⟨tz, rfl⟩ := r
  rw [PyProof.Rows.assign_Tuple]
  refine wpAny_bind (wpAny_standAt ?_)
  unfold unpack
  rw [hst, hn, ← hl]
  refine wpAny_bind (wpAny_holding (unpackItems_ascii (I.ok.hd hc) ha fun h' tk us kp hv => ?_))
  exact h.run pins _ σ H _ us Q (I.kept kp) hv hw

structure DGm (cls : String → Value) (X : Cx) (W : WX) (tg : Expr) (g : Da → Env → SR) : Prop where
  run : ∃ t, PG X tg t ∧ ∀ (F B H : Hp) (σ : L2.St) (r : Env) (v : V) (d : Da) (D : Ends), Ok X.K F B H σ r → Rep X.K B v d → Ps X.K cls F B D W (g d r) → t v σ H D.nx
structure DGms (cls : String → Value) (X : Cx) (W : WX) (ts : List Expr) (g : List Da → Env → SR) : Prop where
  run : ∃ t, PGs X ts t ∧ ∀ (F B H : Hp) (σ : L2.St) (r : Env) (vs : List V) (ds : List Da) (D : Ends), Ok X.K F B H σ r → RepAll X.K B vs ds → Ps X.K cls F B D W (g ds r) → t vs σ H D.nx
def gPut (i : Nat) (fi : Env → R Da) : Da → Env → SR := fun d r => match r[i]? with
  | some (.ow (.list ds)) => bS r (fi r) fun j => match j with
    | .int j => match ixD ds.length j with
      | some n => .nx (r.set i (.ow (.list (ds.set n d))))
      | none => .no
    | _ => .no
  | _ => .no
theorem dgm_put (i : Nat) {x : Str} {ei : Expr} {fi : Env → R Da} {p tpos : Pos} (hei : DE cls X W ei fi) (hN : X.N[i]? = some x := by rfl) (hv : Vis X.env.scope x := by first | exact Or.inl rfl | exact Or.inr (Or.inl rfl) | exact Or.inr (Or.inr rfl))
    (hd : (x == ("__debug__" : Str)) = false := by decide) (hcd : (x == ("__classdict__" : Str)) = false := by decide)
    (ha : ∀ v, assign (.Subscript (.Name x p) ei tpos) X.env v = (do
      let ov ← holding [v] (eval (.Name x p) X.env)
      let iv ← holding [v, ov] (eval ei X.env)
      standAt tpos
      holding [v, ov, iv] (setItem ov iv v)
      release [v, ov, iv] []) := by intro _; rfl) : DGm cls X W (.Subscript (.Name x p) ei tpos) (gPut i fi) := by
  obtain ⟨u, pu, h'⟩ := hei.run
  refine ⟨_, pg_sub (pe_var hN hv hd hcd) pu set_list ha, fun F B H σ r v d D k hv q => ?_⟩
  unfold gPut at q
  split at q
  · rename_i ds e0
    obtain ⟨a, h1, b1, b2, xs, b3, b4⟩ := k.sl i _ e0
    refine ⟨.ref a, h1, ?_⟩
    refine h' F B H σ r _ k ((Ps.bS q k).imp fun j B2 H2 s2 q2 w hw => ?_)
    cases j with
    | int j =>
      cases hw
      have q2 : Ps X.K cls F B2 D W (match ixD ds.length j with | some n => .nx (r.set i (.ow (.list (ds.set n d)))) | none => .no) := q2
      cases en : ixD ds.length j with
      | none => rw [en] at q2; exact q2.elim
      | some n =>
        rw [en] at q2
        refine ⟨a, xs, j, n, rfl, rfl, s2.hh _ _ b3, by rw [b4.length]; exact en, q2 B2 _ σ (Gr.refl _ _) ?_⟩
        exact (k.stp s2).put e0 h1 ⟨xs.set n v, upd_same, (b4.mono s2.gr.1).set (hv.mono s2.gr.1) n⟩
    | none => exact q2.elim
    | bool b => exact q2.elim
    | str b => exact q2.elim
    | tuple b => exact q2.elim
    | list b => exact q2.elim
    | dict b => exact q2.elim
  · exact q.elim
def gmNil : List Da → Env → SR := fun ds r => match ds with
  | [] => .nx r
  | _ => .no
def gmCons (g : Da → Env → SR) (gs : List Da → Env → SR) : List Da → Env → SR := fun ds r => match ds with
  | d :: ds => match g d r with
    | .nx r' => gs ds r'
    | .er c r' => .er c r'
    | _ => .no
  | [] => .no
theorem dgms_nil : DGms cls X W [] gmNil := by
  refine ⟨_, pgs_nil, fun F B H σ r vs ds D k hv p => ?_⟩
  cases hv with
  | nil => exact ⟨rfl, p B H σ (Gr.refl _ _) k⟩
  | cons h h' => exact p.elim
theorem dgms_cons {e : Expr} {es : List Expr} {g : Da → Env → SR} {gs : List Da → Env → SR} (h1 : DGm cls X W e g) (h2 : DGms cls X W es gs) (hs : (assignEach (e :: es) X.env).map (·.2) = assign e X.env :: (assignEach es X.env).map (·.2) := by rfl) : DGms cls X W (e :: es) (gmCons g gs) := by
  obtain ⟨t, pt, h1⟩ := h1.run
  obtain ⟨u, pu, h2⟩ := h2.run
  refine ⟨_, pgs_cons pt pu hs, fun F B H σ r vs ds D k hv p => ?_⟩
  cases hv with
  | nil => exact p.elim
  | cons h h' =>
    rename_i v vs d ds
    refine ⟨v, vs, rfl, ?_⟩
    have p : Ps X.K cls F B D W (match g d r with | .nx r' => gs ds r' | .er c r' => .er c r' | _ => .no) := p
    refine h1 F B H σ r v d { D with nx := fun σ1 H1 => u vs σ1 H1 D.nx } k h ?_
    cases q : g d r with
    | nx r' =>
      rw [q] at p
      exact fun B' H' σ' gr k' => h2 F B' H' σ' r' vs ds D k' (h'.mono gr.1) (Ps.gr p gr)
    | er c r' =>
      rw [q] at p
      exact p
    | rt _ => rw [q] at p; exact p.elim
    | bk _ => rw [q] at p; exact p.elim
    | ct _ => rw [q] at p; exact p.elim
    | no => rw [q] at p; exact p.elim
def gmStr (gs : List Da → Env → SR) (n : Nat) : Da → Env → SR := fun d r => match d with
  | .str z => if z.cps.all (· < 128) = true ∧ z.cps.size = n then gs (sgD z) r else .no
  | _ => .no
theorem dgm_str {es : List Expr} {k0 : Nat} {gs : List Da → Env → SR} {n : Nat} {pos : Pos} (h : DGms cls X W es gs) (hc : X.calm = true := by rfl) (hn : (assignEach es X.env).length = n := by rfl) (hst : (assignEach es X.env).findIdx? (·.1) = none := by rfl) : DGm cls X W (.Tuple es k0 pos) (gmStr gs n) := by
  obtain ⟨u, pu, h2⟩ := h.run
  refine ⟨_, pg_tupS (k := k0) hc pu hn hst, fun F B H σ r v d D k hv p => ?_⟩
  cases d with
  | str z =>
    cases hv
    have p : Ps X.K cls F B D W (if z.cps.all (· < 128) = true ∧ z.cps.size = n then gs (sgD z) r else .no) := p
    by_cases c : z.cps.all (· < 128) = true ∧ z.cps.size = n
    · rw [if_pos c] at p
      exact ⟨z, rfl, c.1, c.2, h2 F B H σ r _ _ D k (rep_sg z) p⟩
    · rw [if_neg c] at p
      exact p.elim
  | none => exact p.elim
  | bool _ => exact p.elim
  | int _ => exact p.elim
  | list _ => exact p.elim
  | tuple _ => exact p.elim
  | dict _ => exact p.elim
def sAsm (f : Env → R Da) (g : Da → Env → SR) : Env → SR := fun r => bS r (f r) fun d => g d r
theorem ds_asm {tg e : Expr} {f : Env → R Da} {g : Da → Env → SR} {pos : Pos} (he : DE cls X W e f) (hg : DGm cls X W tg g) (hs : swapsWithSole [tg] e pos.line X.env = pure false := by rfl) (hw : swappedStores [tg] e X.env = pure none := by rfl)
    (h1 : (assignEach [tg] X.env).map (·.2) = [assign tg X.env] := by rfl) : DS cls X W (.Assign [tg] e pos) (sAsm f g) := by
  obtain ⟨t, pt, he⟩ := he.run
  obtain ⟨u, pu, hg⟩ := hg.run
  exact ⟨_, ps_asg pt pu hs hw h1, fun F B H σ r D k p => he F B H σ r _ k ((Ps.bS p k).imp fun d B' H' s q v hv => hg F B' H' σ r v d D (k.stp s) hv q)⟩

def tupI : Da → Option (List Int)
  | .tuple ds => intsD ds
  | _ => none
def tupsI : List Da → Option (List (List Int))
  | [] => some []
  | d :: r => match tupI d with
    | none => none
    | some k => match tupsI r with
      | none => none
      | some ks => some (k :: ks)
def insL (x : List Int) : List (List Int) → List (List Int)
  | [] => [x]
  | y :: ys => if x = y then y :: ys else if lexLtI x y then x :: y :: ys else y :: insL x ys
def ordL : List (List Int) → List (List Int)
  | [] => []
  | x :: xs => insL x (ordL xs)
def inB (d : Nat) (b : Int) (k : List Int) : Bool := k.length == d && k.all fun i => decide (0 ≤ i ∧ i < b)
def ssD : Da → R Da
  | .list ds => match tupsI ds with
    | some ks => if ks.length < 64 ∧ ks.all (inB 3 1000) = true then .ok (.list ((ordL ks).map fun k => .tuple (k.map PyData.int))) else .no
    | none => .no
  | _ => .no
theorem lexI_irr : ∀ k : List Int, lexLtI k k = false
  | [] => rfl
  | x :: k => by
    unfold lexLtI
    rw [if_pos rfl]
    exact lexI_irr k
theorem lexI_trans : ∀ {a b c : List Int}, lexLtI a b = true → lexLtI b c = true → lexLtI a c = true
  | [], [], _, h, _ => by cases h
  | [], _ :: _, [], _, h => by cases h
  | [], _ :: _, _ :: _, _, _ => rfl
  | _ :: _, [], _, h, _ => by cases h
  | _ :: _, _ :: _, [], _, h => by cases h
  | x :: a, y :: b, z :: c, h, h2 => by
    unfold lexLtI at h h2 ⊢
    by_cases e1 : x = y
    · subst e1
      rw [if_pos rfl] at h
      by_cases e2 : x = z
      · subst e2
        rw [if_pos rfl] at h2 ⊢
        exact lexI_trans h h2
      · rw [if_neg e2] at h2 ⊢
        exact h2
    · rw [if_neg e1] at h
      have h := of_decide_eq_true h
      by_cases e2 : y = z
      · subst e2
        rw [if_neg e1]
        exact decide_eq_true h
      · rw [if_neg e2] at h2
        have h2 := of_decide_eq_true h2
        have h3 : x < z := Int.lt_trans h h2
        rw [if_neg (by omega)]
        exact decide_eq_true h3
theorem lexI_tri : ∀ (a b : List Int), a ≠ b → lexLtI a b = false → lexLtI b a = true
  | [], [], h, _ => absurd rfl h
  | [], _ :: _, _, h => by cases h
  | _ :: _, [], _, _ => rfl
  | x :: a, y :: b, h, h2 => by
    unfold lexLtI at h2 ⊢
    by_cases e : x = y
    · subst e
      rw [if_pos rfl] at h2 ⊢
      exact lexI_tri a b (fun z => h (by rw [z])) h2
    · rw [if_neg e] at h2
      rw [if_neg (Ne.symm e)]
      have := of_decide_eq_false h2
      exact decide_eq_true (by omega)
abbrev StrL (l : List (List Int)) : Prop := l.Pairwise fun a b => lexLtI a b = true
theorem insL_mem {x y : List Int} : ∀ {l : List (List Int)}, y ∈ insL x l ↔ y = x ∨ y ∈ l
  | [] => by
    show y ∈ [x] ↔ _
    simp
  | z :: l => by
    unfold insL
    by_cases e : x = z
    · rw [if_pos e, List.mem_cons]
      constructor
      · exact .inr
      · rintro (h | h)
        · exact .inl (by rw [h, e])
        · exact h
    · rw [if_neg e]
      by_cases c : lexLtI x z = true
      · rw [if_pos c, List.mem_cons]
      · rw [if_neg c, List.mem_cons, insL_mem (l := l), List.mem_cons]
        constructor
        · rintro (h | h | h)
          · exact .inr (.inl h)
          · exact .inl h
          · exact .inr (.inr h)
        · rintro (h | h | h)
          · exact .inr (.inl h)
          · exact .inl h
          · exact .inr (.inr h)
theorem insL_str {x : List Int} : ∀ {l : List (List Int)}, StrL l → StrL (insL x l)
  | [], _ => List.pairwise_singleton _ _
  | z :: l, h => by
    obtain ⟨h1, h2⟩ := List.pairwise_cons.mp h
    unfold insL
    by_cases e : x = z
    · rw [if_pos e]
      exact h
    · rw [if_neg e]
      by_cases c : lexLtI x z = true
      · rw [if_pos c]
        refine List.pairwise_cons.mpr ⟨fun y hy => ?_, h⟩
        rcases List.mem_cons.mp hy with rfl | hy
        · exact c
        · exact lexI_trans c (h1 y hy)
      · rw [if_neg c]
        refine List.pairwise_cons.mpr ⟨fun y hy => ?_, insL_str h2⟩
        rcases insL_mem.mp hy with rfl | hy
        · exact lexI_tri _ _ e (by simpa using c)
        · exact h1 y hy
theorem ordL_str : ∀ l : List (List Int), StrL (ordL l)
  | [] => List.Pairwise.nil
  | x :: l => insL_str (ordL_str l)
theorem ordL_mem {y : List Int} : ∀ {l : List (List Int)}, y ∈ ordL l ↔ y ∈ l
  | [] => Iff.rfl
  | x :: l => by
    show y ∈ insL x (ordL l) ↔ _
    rw [insL_mem, ordL_mem (l := l), List.mem_cons]
theorem strL_ext : ∀ {l m : List (List Int)}, StrL l → StrL m → (∀ y, y ∈ l ↔ y ∈ m) → l = m
  | [], [], _, _, _ => rfl
  | [], y :: m, _, _, h => by cases (h y).mpr List.mem_cons_self
  | x :: l, [], _, _, h => by cases (h x).mp List.mem_cons_self
  | x :: l, y :: m, hl, hm, h => by
    obtain ⟨l1, l2⟩ := List.pairwise_cons.mp hl
    obtain ⟨m1, m2⟩ := List.pairwise_cons.mp hm
    have e : x = y := by
      rcases List.mem_cons.mp ((h x).mp List.mem_cons_self) with q | q
      · exact q
      · rcases List.mem_cons.mp ((h y).mpr List.mem_cons_self) with q2 | q2
        · exact q2.symm
        · have := lexI_trans (m1 x q) (l1 y q2)
          rw [lexI_irr] at this
          cases this
    subst e
    rw [strL_ext l2 m2 fun z => ⟨fun hz => ?_, fun hz => ?_⟩]
    · rcases List.mem_cons.mp ((h z).mp (List.mem_cons_of_mem _ hz)) with q | q
      · subst q
        have := l1 z hz
        rw [lexI_irr] at this
        cases this
      · exact q
    · rcases List.mem_cons.mp ((h z).mpr (List.mem_cons_of_mem _ hz)) with q | q
      · subst q
        have := m1 z hz
        rw [lexI_irr] at this
        cases this
      · exact q
theorem tups_of {K : PySem.W.Frag} {B : Hp} : ∀ {xs : List V} {ds : List Da} {ks : List (List Int)}, RepAll K B xs ds → tupsI ds = some ks → ∃ as : List (Addr × List Int), xs = as.map (fun p => V.ref p.1) ∧ as.map (·.2) = ks ∧ ∀ p ∈ as, TpF B p.1 (p.2.map V.int)
  | _, _, _, .nil, e => by
    cases e
    exact ⟨[], rfl, rfl, fun _ h => by cases h⟩
  | x :: _, d :: ds, ks, .cons h r, e => by
    have e : (match tupI d with | none => none | some k => match tupsI ds with | none => none | some ks => some (k :: ks)) = some ks := e
    cases q1 : tupI d with
    | none => rw [q1] at e; cases e
    | some k =>
      rw [q1] at e
      have e : (match tupsI ds with | none => none | some ks => some (k :: ks)) = some ks := e
      cases q : tupsI ds with
      | none => rw [q] at e; cases e
      | some ks' =>
        rw [q] at e
        cases e
        obtain ⟨as, e1, e2, e3⟩ := tups_of r q
        cases h with
        | tup ht hr =>
          have q1 : intsD _ = some k := q1
          rw [intsD_eq q1] at hr
          rw [hr.ints] at ht
          refine ⟨(_, k) :: as, by rw [e1]; rfl, by rw [List.map_cons, e2], fun p hp => ?_⟩
          rcases List.mem_cons.mp hp with rfl | hp
          · exact ht
          · exact e3 p hp
        | non => cases q1
        | bl _ => cases q1
        | int _ => cases q1
        | str _ => cases q1
        | lst _ _ => cases q1
        | dct _ _ => cases q1
theorem code3 (B x y z : Int) : TS.code B [x, y, z] = x * B ^ 2 + (y * B ^ 1 + (z * B ^ 0 + 0)) := rfl
theorem code_str {a b : List Int} (ha : inB 3 1000 a = true) (hb : inB 3 1000 b = true) (h : TS.code 1000 a ≤ TS.code 1000 b) (ne : a ≠ b) : lexLtI a b = true := by
  cases c : lexLtI a b with
  | true => rfl
  | false =>
    have hba := lexI_tri a b ne c
    unfold inB at ha hb
    rw [Bool.and_eq_true] at ha hb
    have la : a.length = 3 := by simpa using ha.1
    have lb : b.length = 3 := by simpa using hb.1
    match a, la, b, lb with
    | [x, y, z], _, [x', y', z'], _ =>
      have h1 := List.all_eq_true.mp ha.2
      have h2 := List.all_eq_true.mp hb.2
      have a1 := of_decide_eq_true (h1 x (by simp))
      have a2 := of_decide_eq_true (h1 y (by simp))
      have a3 := of_decide_eq_true (h1 z (by simp))
      have b1 := of_decide_eq_true (h2 x' (by simp))
      have b2 := of_decide_eq_true (h2 y' (by simp))
      have b3 := of_decide_eq_true (h2 z' (by simp))
      rw [code3, code3] at h
      have e2 : (1000 : Int) ^ 2 = 1000000 := by decide
      have e1 : (1000 : Int) ^ 1 = 1000 := by decide
      have e0 : (1000 : Int) ^ 0 = 1 := by decide
      rw [e2, e1, e0] at h
      unfold lexLtI at hba
      by_cases q1 : x' = x
      · rw [if_pos q1] at hba
        unfold lexLtI at hba
        by_cases q2 : y' = y
        · rw [if_pos q2] at hba
          unfold lexLtI at hba
          by_cases q3 : z' = z
          · subst q1 q2 q3
            exact absurd rfl ne
          · rw [if_neg q3] at hba
            have := of_decide_eq_true hba
            omega
        · rw [if_neg q2] at hba
          have := of_decide_eq_true hba
          omega
      · rw [if_neg q1] at hba
        have := of_decide_eq_true hba
        omega
def eSs (f : Env → R Da) : Env → R Da := fun r => (f r).bind ssD
theorem mapR {α β γ : Type} (f : α → β) (g : β → γ) (l : List α) : l.map (fun p => g (f p)) = (l.map f).map g := by rw [List.map_map]; rfl
theorem rep_tups {K : PySem.W.Frag} {B : Hp} : ∀ {L : List (Addr × List Int)}, (∀ p ∈ L, TpF B p.1 (p.2.map V.int)) → RepAll K B (L.map fun p => V.ref p.1) (L.map fun p => PyData.tuple (p.2.map PyData.int))
  | [], _ => .nil
  | p :: L, h => .cons (.tup (h p List.mem_cons_self) (repInts p.2)) (rep_tups fun q hq => h q (List.mem_cons_of_mem _ hq))
theorem df_sset {k0 : Nat} (hr : Room k0 X.A) {e : Expr} {f : Env → R Da} {p p2 pos pos2 : Pos} (hm : X.mg "sorted" = none) (hm2 : X.mg "set" = none) (ha : DR cls X W e f) (hc : X.calm = true := by rfl) (hg : Gl X "sorted" := by rfl) (hg2 : Gl X "set" := by rfl) (he : starEach [e] X.env = (false, eval e X.env) :: starEach [] X.env := by rfl)
    (he2 : starEach [.Call (.Name "set" p2) [e] [] pos2] X.env = (false, eval (.Call (.Name "set" p2) [e] [] pos2) X.env) :: starEach [] X.env := by rfl) : DF cls X W (.Call (.Name "sorted" p) [.Call (.Name "set" p2) [e] [] pos2] [] pos) (eSs f) := by
  obtain ⟨t, pt, h⟩ := ha.run
  refine ⟨_, pe_callB (cr_sortedT hc) hg hm (by decide +kernel) (pa_cons (pe_callTy (cr_setOfT hc hr.units) hg2 hm2 (by decide +kernel) (pa_cons pt pa_nil he) (by decide) (by decide) he rfl) pa_nil he2) (by decide) (by decide) he2 rfl, fun F B H σ r Q k p => h F B H σ r _ k (p.bind.imp fun d B1 H1 s1 p1 v hv => ?_)⟩
  cases d with
  | list ds =>
    have p1 : Pw cls B1 H1 σ W (WfF X.K H Q) (match tupsI ds with | some ks => if ks.length < 64 ∧ ks.all (inB 3 1000) = true then .ok (.list ((ordL ks).map fun k => .tuple (k.map PyData.int))) else .no | none => .no) := p1
    cases c : tupsI ds with
    | none => rw [c] at p1; exact p1.elim
    | some ks =>
      rw [c] at p1
      have p3 : Pw cls B1 H1 σ W (WfF X.K H Q) (if ks.length < 64 ∧ ks.all (inB 3 1000) = true then .ok (.list ((ordL ks).map fun k => .tuple (k.map PyData.int))) else .no) := p1
      by_cases c2 : ks.length < 64 ∧ ks.all (inB 3 1000) = true
      · rw [if_pos c2] at p3
        obtain ⟨a, xs, rfl, h1, h2⟩ := hv.list s1.bh
        obtain ⟨as, e1, e2, e3⟩ := tups_of h2 c
        subst e1
        have lk : as.length = ks.length := by rw [← e2, List.length_map]
        have all := List.all_eq_true.mp c2.2
        refine ⟨a, as, rfl, h1, fun p hp => s1.bh.st (e3 p hp).sq, by omega, fun b L hb hsub hall => ?_⟩
        have sT : ∀ p ∈ L, TpF B1 p.1 (p.2.map V.int) := fun p hp => e3 p (hsub p hp)
        have le1 : Le H1 (upd H1 b (SetTO X.prog X.w b L)) := Le.new hb
        refine ⟨b, L, 3, 1000, rfl, upd_same, fun p hp => le1.st (s1.bh.st (sT p hp).sq), by decide, fun p hp => ?_, fun L' q pm nd hlt pw nq => ?_⟩
        · have hin : p.2 ∈ ks := by
            rw [← e2]
            exact List.mem_map_of_mem (hsub p hp)
          have z := all p.2 hin
          unfold inB at z
          rw [Bool.and_eq_true] at z
          exact ⟨by simpa using z.1, fun m hm => of_decide_eq_true (List.all_eq_true.mp z.2 m hm)⟩
        · have sub' : ∀ p ∈ L', p.2 ∈ ks := fun p hp => by
            rw [← e2]
            exact List.mem_map_of_mem (hsub p (pm.mem_iff.mp hp))
          have eL : L'.map (·.2) = ordL ks := by
            refine strL_ext ?_ (ordL_str ks) fun y => ?_
            · have pw2 : (L'.map (·.2)).Pairwise fun a b => TS.code 1000 a ≤ TS.code 1000 b := List.pairwise_map.mpr pw
              refine List.Pairwise.imp_of_mem (fun {a b} ha hb hab => ?_) (List.Pairwise.and pw2 nd)
              obtain ⟨pa, hpa, ea⟩ := List.mem_map.mp ha
              obtain ⟨pb, hpb, eb⟩ := List.mem_map.mp hb
              exact code_str (by rw [← ea]; exact all _ (sub' pa hpa)) (by rw [← eb]; exact all _ (sub' pb hpb)) hab.1 hab.2
            · rw [ordL_mem]
              constructor
              · intro hy
                obtain ⟨pa, hpa, ea⟩ := List.mem_map.mp hy
                rw [← ea]
                exact sub' pa hpa
              · intro hy
                rw [← e2] at hy
                obtain ⟨pa, hpa, ea⟩ := List.mem_map.mp hy
                have := hall pa hpa
                rw [← ea]
                exact (pm.map (·.2)).mem_iff.mpr this
          have s2 : Stp B1 H1 B1 (upd H1 b (SetTO X.prog X.w b L)) := Stp.drop s1.bh hb
          have nH1 : H1 q = none := le1.back nq
          have rr := rep_tups (K := X.K) (B := B1) (L := L') fun p hp => sT p (pm.mem_iff.mp hp)
          rw [mapR (fun p : Addr × List Int => p.2) (fun k : List Int => PyData.tuple (k.map PyData.int)), eL] at rr
          exact p3 B1 _ (s2.trans (Stp.drop s2.bh nq)) q (s1.hh.back nH1) (s1.bh.back nH1) ⟨_, upd_same, rr⟩
      · rw [if_neg c2] at p3
        exact p3.elim
  | none => exact p1.elim
  | bool _ => exact p1.elim
  | int _ => exact p1.elim
  | str _ => exact p1.elim
  | tuple _ => exact p1.elim
  | dict _ => exact p1.elim
theorem roomA {k : Nat} {A0 : Around} (hr : Room k A0) (hA : X.A = A0) : Room k X.A := by
  rw [hA]
  exact hr
theorem o_eqA {k : Nat} {A0 : Around} (hr : Room k A0) (hA : X.A = A0 := by rfl) : OpR X (compareOp .Eq) (rD X.K dEq) := o_eq (roomA hr hA)
theorem o_neA {k : Nat} {A0 : Around} (hr : Room k A0) (hA : X.A = A0 := by rfl) : OpR X (compareOp .NotEq) (rD X.K dNe) := o_ne (roomA hr hA)
theorem o_geA {k : Nat} {A0 : Around} (hr : Room k A0) (hA : X.A = A0 := by rfl) : OpR X (compareOp .GtE) (rD X.K dGe) := o_ge (roomA hr hA)
theorem o_notInA {k : Nat} {A0 : Around} (hr : Room k A0) (hA : X.A = A0 := by rfl) : OpR X (compareOp .NotIn) (rD X.K dNotIn') := o_notIn' (roomA hr hA)
theorem de_itemA {k : Nat} {A0 : Around} (hr : Room k A0) {a b : Expr} {fa fb : Env → R Da} {pos : Pos} (ha : DR cls X W a fa) (hb : DR cls X W b fb) (hA : X.A = A0 := by rfl) (hs : PlainIx b := by exact fun _ _ => rfl) : DE cls X W (.Subscript a b pos) (eBin dItem' fa fb) := de_item' (roomA hr hA) ha hb hs
theorem de_callA {x : Str} {k : Nat} {A0 : Around} {m : List Da → R Da} {e : Expr} {es : List Expr} {fs : Env → R (List Da)} {p pos : Pos} (G : Def cls X.prog X.w X.K X.mg X.base x k m) (hr : Room k A0) (tk : Takes X W) (ha : DA cls X W (e :: es) fs) (hA : X.A = A0 := by rfl)
    (hg : Gl X x := by rfl) (hdb : (x == ("__debug__" : Str)) = false := by decide) (he : starEach (e :: es) X.env = (false, eval e X.env) :: starEach es X.env := by rfl) (hpl : (backTo pos (starEach es X.env)).any (·.1) = false := by rfl) :
    DE cls X W (.Call (.Name x p) (e :: es) [] pos) (eCall m fs) := de_call G (roomA hr hA) tk ha hg hdb he hpl
theorem df_ssetA {k0 : Nat} {A0 : Around} (hr : Room k0 A0) {e : Expr} {f : Env → R Da} {p p2 pos pos2 : Pos} (hm : X.mg "sorted" = none) (hm2 : X.mg "set" = none) (ha : DR cls X W e f) (hA : X.A = A0 := by rfl) (hc : X.calm = true := by rfl) (hg : Gl X "sorted" := by rfl) (hg2 : Gl X "set" := by rfl) (he : starEach [e] X.env = (false, eval e X.env) :: starEach [] X.env := by rfl)
    (he2 : starEach [.Call (.Name "set" p2) [e] [] pos2] X.env = (false, eval (.Call (.Name "set" p2) [e] [] pos2) X.env) :: starEach [] X.env := by rfl) : DF cls X W (.Call (.Name "sorted" p) [.Call (.Name "set" p2) [e] [] pos2] [] pos) (eSs f) := df_sset (roomA hr hA) hm hm2 ha hc hg hg2 he he2
end
end Mi

namespace Mi
open PySem PySem.Spec PyProof.Rows L2
section
variable {cls : String → Value} {X : Cx} {W : WX}
def mm (F : Da → List Da → Da) : List Da → R Da
  | [] => .no
  | x :: r => if (x :: r).all (isK 0) || (x :: r).all (isK 1) then .ok (F x r) else .no
end
end Mi

namespace Mi
open PySem PySem.Spec PyProof.Rows L2
section
variable {cls : String → Value} {X : Cx} {W : WX}
def d2 (g : Int → Int → Int) : List Da → R Da
  | [.int i, .int j] => .ok (.int (g i j))
  | _ => .no
def isD (x y : Da) : R Bool := match y with
  | .bool b => match x with
    | .bool a => .ok (decide (a = b))
    | _ => .ok false
  | _ => if isNn y then .ok (isNn x) else .no
def dIs' (x y : Da) : R Da := (isD x y).bind fun b => .ok (.bool b)
end
end Mi

namespace Mi
open PySem PySem.Spec PyProof.Rows L2
inductive XAll (K : PySem.W.Frag) (H0 B H : Hp) : List V → List Sl → Prop
  | nil : XAll K H0 B H [] []
  | fz {v : V} {d : Da} {vs : List V} {ss : List Sl} : Rep K B v d → XAll K H0 B H vs ss → XAll K H0 B H (v :: vs) (.fz d :: ss)
  | ow {p : Addr} {d : Da} {vs : List V} {ss : List Sl} : H0 p = none → B p = none → OwnD K B H p d → (∀ (i : Nat) (e : Da) (q : Addr), ss[i]? = some (.ow e) → vs[i]? = some (.ref q) → q ≠ p) → XAll K H0 B H vs ss → XAll K H0 B H (.ref p :: vs) (.ow d :: ss)
theorem XAll.back {K : PySem.W.Frag} {H0 H1 B H : Hp} (e : Le H0 H1) : ∀ {vs : List V} {ss : List Sl}, XAll K H1 B H vs ss → XAll K H0 B H vs ss
  | _, _, .nil => .nil
  | _, _, .fz h r => .fz h (r.back e)
  | _, _, .ow h1 h2 h3 h4 r => .ow (e.back h1) h2 h3 h4 (r.back e)
theorem XAll.new {K : PySem.W.Frag} {H0 B H : Hp} : ∀ {vs : List V} {ss : List Sl} (i : Nat) (e : Da) (q : Addr), XAll K H0 B H vs ss → ss[i]? = some (.ow e) → vs[i]? = some (.ref q) → H0 q = none
  | _, _, i, e, q, .nil, h, _ => by simp at h
  | _, _, 0, e, q, .fz _ _, h, _ => by simp at h
  | _, _, i + 1, e, q, .fz _ r, h, h2 => XAll.new i e q r (by simpa using h) (by simpa using h2)
  | _, _, 0, e, q, .ow h1 _ _ _ _, h, h2 => by
    simp at h2
    subst h2
    exact h1
  | _, _, i + 1, e, q, .ow _ _ _ _ r, h, h2 => XAll.new i e q r (by simpa using h) (by simpa using h2)
section
variable {cls : String → Value} {X : Cx} {W : WX}
structure DX (cls : String → Value) (X : Cx) (W : WX) (es : List Expr) (f : Env → R (List Sl)) : Prop where
  run : ∃ t, PA X es t ∧ ∀ (F B H : Hp) (σ : L2.St) (r : Env) (Q : List V → Hp → Prop), Ok X.K F B H σ r → Pw cls B H σ W (fun ss B' H' => ∀ vs, XAll X.K H B' H' vs ss → Q vs H') (f r) → t σ H Q
def xNil : Env → R (List Sl) := fun _ => .ok []
def xF (f : Env → R Da) (g : Env → R (List Sl)) : Env → R (List Sl) := fun r => (f r).bind fun d => (g r).bind fun ss => .ok (.fz d :: ss)
def xO (f : Env → R Da) (g : Env → R (List Sl)) : Env → R (List Sl) := fun r => (f r).bind fun d => (g r).bind fun ss => .ok (.ow d :: ss)
theorem Ok.setX {K : PySem.W.Frag} {F B H : Hp} {σ : L2.St} {r : Env} {i : Nat} {v : V} {s : Sl} (k : Ok K F B H σ r) (h : match s with
    | .fz d => Rep K B v d
    | .ow d => ∃ p, v = .ref p ∧ F p = none ∧ B p = none ∧ OwnD K B H p d ∧ (∀ (j : Nat) (e : Da) (q : Addr), j ≠ i → r[j]? = some (.ow e) → σ[j]? = some (some (.ref q)) → q ≠ p) ∧ ∀ (j : Nat) (a : Addr), FtC H σ r j a → a ≠ p
    | .un => False
    | .pn _ => False
    | .bd _ => False
    | .cm _ => False) : Ok K F B H (σ.set i (some v)) (r.set i s) := by
  cases s with
  | un => exact h.elim
  | pn v => exact h.elim
  | bd b => exact h.elim
  | cm b => exact h.elim
  | fz d => exact k.setF h
  | ow d =>
    obtain ⟨p, rfl, h1, h2, h3, h4, h5⟩ := h
    exact k.setO k.bh k.fh h1 h2 h3 (fun j e q a b c => ⟨h4 j e q a b c, rfl⟩) fun j a f => ⟨h5 j a f, rfl⟩
theorem XAll.put {K : PySem.W.Frag} {F H0 B H : Hp} (fh : Le F H0) {v : V} {s : Sl} {vs : List V} {ss : List Sl} (h : XAll K H0 B H (v :: vs) (s :: ss)) {σ : L2.St} {r : Env} {i : Nat} (k : Ok K F B H σ r)
    (hn : ∀ (j : Nat) (e : Da) (q : Addr), j ≠ i → r[j]? = some (.ow e) → σ[j]? = some (some (.ref q)) → ∀ p d, v = .ref p → s = .ow d → q ≠ p)
    (hc : ∀ (j : Nat) (a : Addr), FtC H σ r j a → H0 a ≠ none) : Ok K F B H (σ.set i (some v)) (r.set i s) := by
  refine k.setX ?_
  cases h with
  | fz h _ => exact h
  | ow h1 h2 h3 h4 _ => exact ⟨_, rfl, fh.back h1, h2, h3, fun j e q a b c => hn j e q a b c _ _ rfl rfl, fun j a f z => hc j a f (by rw [z]; exact h1)⟩
theorem Ok.ftn {K : PySem.W.Frag} {F B H B' H' : Hp} {σ : L2.St} {r : Env} (k : Ok K F B H σ r) (s : Stp B H B' H') (j : Nat) (a : Addr) (f : FtC H' σ r j a) : H a ≠ none := fun z => by
  have f : FtC H σ r j a := f.to (fun _ z => z) (fun _ _ => rfl) fun p g => (k.stp_at s g).1
  obtain ⟨⟨o, h1, _⟩, _⟩ := k.ftc f
  rw [z] at h1
  cases h1
theorem XAll.nc {K : PySem.W.Frag} {H0 B H : Hp} {v : V} {s : Sl} {vs : List V} {ss : List Sl} (h : XAll K H0 B H (v :: vs) (s :: ss)) (c : Cm) : s ≠ .cm c := by
  cases h <;> exact fun z => by cases z
theorem owned_in {K : PySem.W.Frag} {F B H : Hp} {σ : L2.St} {r : Env} (k : Ok K F B H σ r) {j : Nat} {e : Da} {q : Addr} (h1 : r[j]? = some (.ow e)) (h2 : σ[j]? = some (some (.ref q))) : H q ≠ none := by
  obtain ⟨p, a, _, _, o⟩ := k.sl j _ h1
  rw [h2] at a
  cases a
  obtain ⟨u, hu⟩ := o.there
  rw [hu]
  exact fun z => by cases z
def sPar2 (i j : Nat) (f : Env → R (List Sl)) : Env → SR := fun r => bS r (f r) fun ss => match ss with
  | [a, b] => .nx ((r.set i a).set j b)
  | _ => .no
theorem set_get {α : Type} {l : List α} {i j : Nat} {a b : α} (h : (l.set i a)[j]? = some b) : (i = j ∧ a = b) ∨ (i ≠ j ∧ l[j]? = some b) := by
  by_cases c : i = j
  · subst c
    by_cases hl : i < l.length
    · rw [List.getElem?_set_self hl] at h
      exact .inl ⟨rfl, Option.some.inj h⟩
    · rw [List.getElem?_eq_none (by rw [List.length_set]; omega)] at h
      cases h
  · rw [List.getElem?_set_ne c] at h
    exact .inr ⟨c, h⟩
end
end Mi

namespace Mi
open PySem PySem.Spec PyProof.Rows L2
section
variable {X : Cx}
end
section
variable {cls : String → Value} {X : Cx} {W : WX}
end
end Mi

namespace Mi
open PySem PySem.Spec PyProof.Rows L2
section
variable {X : Cx} {pins : List (Addr × Obj)} {σ : L2.St} {H : Hp} {s : Shared}
end
end Mi

namespace Mi
open PySem PySem.Spec PyProof.Rows L2
section
variable {cls : String → Value} {X : Cx} {W : WX}
end
end Mi

namespace Mi
open PySem PySem.Spec PyProof.Rows L2
def notW : Obj → Bool
  | ⟨_, _, .fields vs, _⟩ => (match vs.toList with
    | _ :: .str n _ :: _ => !(n == ("ways_to" : Str))
    | _ => true)
  | _ => true
def onlyW (K : PySem.W.Frag) (c : Addr) : Bool := K.all fun e => notW e.2 || e.1 == c
structure TabK (K : PySem.W.Frag) (c P : Addr) : Prop where
  nm : PySem.W.codeIn K (.ref c) "ways_to" = true
  hd : PySem.W.codeHdIn K c P = true
  no : K.lookup P = none
  on : onlyW K c = true
theorem mem_lookup' : ∀ {K : List (Addr × Obj)} {a : Addr} {o : Obj}, K.lookup a = some o → (a, o) ∈ K
  | [], _, _, h => by cases h
  | (b, u) :: K, a, o, h => by
    rw [List.lookup_cons] at h
    cases q : a == b with
    | true =>
      rw [q] at h
      cases h
      rw [show a = b from beq_iff_eq.mp q]
      exact List.mem_cons_self
    | false =>
      rw [q] at h
      exact List.mem_cons_of_mem _ (mem_lookup' h)
theorem notW_no {o : Obj} {vs : Array Value} {a : Value} {n : Str} {t : Tok} {r : List Value} (hd : o.data = .fields vs) (hv : vs.toList = a :: .str n t :: r) (hn : (n == ("ways_to" : Str)) = true) : notW o = false := by
  obtain ⟨oc, od, dt, osl⟩ := o
  have hd : dt = .fields vs := hd
  subst hd
  show (match vs.toList with | _ :: .str n _ :: _ => !(n == ("ways_to" : Str)) | _ => true) = false
  rw [hv]
  show (!(n == ("ways_to" : Str))) = false
  rw [hn]
  rfl
theorem TabK.uniq {K : PySem.W.Frag} {c P c' : Addr} (t : TabK K c P) (h : PySem.W.codeIn K (.ref c') "ways_to" = true) : c' = c := by
  unfold PySem.W.codeIn at h
  simp only at h
  split at h
  · rename_i vs sl hl
    have q := List.all_eq_true.mp t.on _ (mem_lookup' hl)
    split at h
    · rename_i hv
      rw [notW_no rfl hv h] at q
      exact beq_iff_eq.mp q
    · cases h
  · cases h
theorem hd_inj {K : PySem.W.Frag} {c P P' : Addr} (h : PySem.W.codeHdIn K c P = true) (h' : PySem.W.codeHdIn K c P' = true) : P' = P := by
  unfold PySem.W.codeHdIn at h h'
  split at h
  · rename_i vs sl hl
    rw [hl] at h'
    simp only [Bool.and_eq_true] at h h'
    have a := h.1.1.1.1.1
    have b := h'.1.1.1.1.1
    split at a
    · rename_i P0 e0
      rw [e0] at b
      rw [← (beq_iff_eq.mp a : P0 = P)]
      exact (beq_iff_eq.mp b : P0 = P').symm
    · cases a
  · cases h
theorem TabK.all {K : PySem.W.Frag} {c P : Addr} (t : TabK K c P) {H : Hp} (hP : H P = some (.tbl #[])) : TbAll K H := fun P' ⟨c', h1, h2⟩ => by
  have e := t.uniq h1
  subst e
  have e2 := hd_inj t.hd h2
  subst e2
  exact LamX.TabS.nil hP
theorem TabK.tb {K : PySem.W.Frag} {c P : Addr} (t : TabK K c P) : TbK K P := ⟨c, t.nm, t.hd⟩
theorem law_endT {K : PySem.W.Frag} {cls : String → Value} {m : List Da → R Da} (hm : ∀ ns : List Int, ns.length ≤ 63 → (∀ k ∈ ns, Builtin.Int.intBits k ≤ 1048576) → m [.list (ns.map PyData.int)] = .ok (.bool true)) (H : Hp) (a : Addr) (ns : List Int) (hl : ns.length ≤ 63) (hB : ∀ k ∈ ns, Builtin.Int.intBits k ≤ 1048576) (tb : TbAll K H) (hS : SqL K H a (ns.map V.int)) :
    spF K cls m [.ref a] H (fun v _ => v = .bl true) (fun _ _ _ => False) := by
  refine ⟨H, [.list (ns.map PyData.int)], Le.refl H, .cons (.lst hS (repInts ns)) .nil, tb, ?_⟩
  rw [hm ns hl hB]
  intro B' H' v s hv
  cases hv
  rfl
theorem TabK.code {K : PySem.W.Frag} {c P : Addr} (t : TabK K c P) {cdv : Value} (h : PySem.W.codeIn K cdv "ways_to" = true) : cdv = .ref c := by
  cases cdv with
  | ref c' => rw [t.uniq h]
  | _ => cases h
end Mi

namespace Mi
open PySem PySem.Spec PyProof.Rows L2
section
variable {cls : String → Value} {X : Cx} {W : WX}
end
end Mi

namespace Mi
open PySem PySem.Spec PyProof.Rows L2
section
variable {cls : String → Value} {X : Cx} {W : WX}
end
end Mi

namespace Mi
open PySem PySem.Spec PyProof.Rows L2

theorem raw_of {K : PySem.W.Frag} {mg : Str → Option Value} {x : Str} {st : Stmt} {f : Addr} {fd : FuncData} (F : FunD K x x (defArgs st) (defBody st) (defScope st) [] [] f fd) (h : mg x = some (.ref f)) : Raw K mg x st := by
  obtain ⟨oc, od, dV, kV, doc, pm, an, cdv, ct, osl, e, lk, hcd, hD, hK⟩ := F.ex
  rcases hD with ⟨_, rfl⟩ | ⟨q, _⟩
  · exact ⟨f, fd, ⟨⟨oc, od, kV, doc, pm, an, cdv, ct, osl, e, lk, hcd⟩, F.kp⟩, h⟩
  · exact absurd rfl q
def clsN (L : List String) (c : String) : String := if c ∈ L then c else "JumpError"
def clsK (L : List String) (K : PySem.W.Frag) (c : String) : Value := .ref (He.ga K (Str.ofString (clsN L c)))
theorem clsK_of {L : List String} {K : PySem.W.Frag} {c : String} (hc : decide (c ∈ L) = true) : clsK L K c = .ref (He.ga K (Str.ofString c)) := by
  unfold clsK clsN
  rw [if_pos (of_decide_eq_true hc)]
theorem exF_of {L : List String} {K : PySem.W.Frag} {h : Heap} {mg : Str → Option Value} {c : String} (hc : decide (c ∈ L) = true) (X : K.In h) (G : h.Ns mainGlobals mg) (h1 : (He.Fa.glo (Str.ofString c)).ok K = true) (h2 : (He.Fa.exc (Str.ofString c)).ok K = true) : ExF K mg (clsK L K) (Str.ofString c) c := by
  obtain ⟨a, b, d, e⟩ := He.exc_ok h2
  exact ⟨_, clsK_of hc, He.glo_ok X G h1, a, b, d, e⟩
theorem gc_of {L : List String} {K : PySem.W.Frag} {h : Heap} {mg : Str → Option Value} {c : String} (hc : decide (c ∈ L) = true) (X : K.In h) (G : h.Ns mainGlobals mg) (h1 : (He.Fa.glo (Str.ofString c)).ok K = true) : mg (Str.ofString c) = some (clsK L K c) := by
  rw [clsK_of hc]
  exact He.glo_ok X G h1
theorem exm_of {L : List String} {K : PySem.W.Frag} {c d x : String} {b : Bool} (h : (He.Fa.exm (Str.ofString d) (Str.ofString x) b).ok K = true) (hd : (clsN L c == d) = true) (hx : decide (x ∈ L) = true) : PySem.W.exmOne K (clsK L K c) (clsK L K x) = some b := by
  rw [clsK_of hx]
  unfold clsK
  rw [beq_iff_eq.mp hd]
  exact He.exm_ok h
theorem def_law {cls : String → Value} {P : Program} {w : World} {K : PySem.W.Frag} {mg : Str → Option Value} {st : Stmt} {f fa : Addr} {fd : FuncData} {x : Str} {k : Nat} {m : List Da → R Da} {y : Str} (F : FunD K x x (defArgs st) (defBody st) (defScope st) [] [] f fd) (hf : mg x = some (.ref f)) (hfa : mg x = some (.ref fa))
    (hb : ∀ (kV doc pm : Value) (an : Option Addr) (cdv ct : Value) (us : List Value), us.length = [y].length → bindArgs (PySem.W.fnOf x x (defArgs st) (defBody st) (defScope st) .none kV doc pm an cdv ct) ⟨us, []⟩ = pure ([y].zip us))
    (ok : ∀ base : Heap, ∃ f' fd', Fun K x x st f' fd' ∧ mg x = some (.ref f') ∧ FnOk P w K mg base (L2.CX P w) k f' fd' [y] (spF K cls m)) :
    ∃ fd : FuncData, (∀ (s : Shared) (u : Value), BindsTo s fd ⟨[u], []⟩ [(y, u)]) ∧ ∀ base : Heap, FnOk P w K mg base (L2.CX P w) k fa fd [y] (spF K cls m) := by
  have e1 : f = fa := by
    rw [hf] at hfa
    cases hfa
    rfl
  subst e1
  refine ⟨fd, fun s u => FunD.bindsA (ps := [y]) F hb s [u] rfl, fun base => ?_⟩
  obtain ⟨f', fd', F', h', o⟩ := ok base
  rw [hf] at h'
  cases h'
  obtain ⟨oc, od, dV, kV, doc, pm, an, cdv, ct, osl, e, lk, hcd, hD, hK⟩ := F.ex
  obtain ⟨oc2, od2, kV2, doc2, pm2, an2, cdv2, ct2, osl2, e2, lk2, hcd2⟩ := F'.ex
  rw [lk] at lk2
  cases lk2
  exact o
def clsBody : Stmt → List Stmt
  | .ClassDef _ _ _ b _ _ _ _ _ _ _ => b
  | _ => []
def metS (c : Stmt) (j : Nat) : Stmt := (clsBody c).getD j (.Pass ⟨0, 0, 0, 0⟩)
end Mi

namespace Mi
open PySem PySem.Spec PyProof.Rows L2
def kept1 (p : Addr) (H H' : Hp) : Prop := ∀ q o, q ≠ p → H q = some o → H' q = some o
theorem Le.kept1 {B H H' : Hp} {p : Addr} {xs : List V} (l : Le B H) (bp : B p = none) (hp : H p = some (.lst xs)) (k : kept1 p H H') : Le B H' := fun a o ha => by
  have np := ne_of_none ha bp
  have q := l a o ha
  cases o with
  | tbl ps =>
    obtain ⟨⟨ps', q1⟩, q2⟩ := q
    refine ⟨⟨ps', k a _ np q1⟩, fun t => ?_⟩
    obtain ⟨ps2, t1, t2, t3⟩ := q2 t
    refine ⟨ps2, k a _ np t1, t2, fun pos cv hcv => ?_⟩
    obtain ⟨c, e1, e2⟩ := t3 pos cv hcv
    refine ⟨c, e1, k c _ (fun z => ?_) e2⟩
    rw [z, hp] at e2
    cases e2
  | _ => exact k a _ np q
structure IsE (X : Cx) (i : Nat) (a : Addr) (e : Expr) (b : Bool) : Prop where
  run : ∃ t, PE X e t ∧ ∀ (σ : L2.St) (H : Hp) (Q : VK), σ[i]? = some (some (.ref a)) → Q (.bl b) H → t σ H Q
structure IsA (X : Cx) (i : Nat) (a : Addr) (es : List Expr) (bs : List Bool) : Prop where
  run : ∃ t, PA X es t ∧ ∀ (σ : L2.St) (H : Hp) (Q : List V → Hp → Prop), σ[i]? = some (some (.ref a)) → Q (bs.map V.bl) H → t σ H Q
section
variable {X : Cx} {i : Nat} {a D : Addr} {oe : Obj} {pn : List (Addr × Obj)}
end
structure IsS (X : Cx) (i j : Nat) (a : Addr) (sts : List Stmt) (kp : Bool) (bs : List Bool) : Prop where
  run : ∃ t, PSs X sts t ∧ ∀ (σ : L2.St) (H : Hp) (D : Ends) (p : Addr) (xs : List V), i ≠ j → σ[i]? = some (some (.ref a)) → σ[j]? = some (some (.ref p)) → H p = some (.lst xs) → xs.length + bs.length ≤ 1000 →
    (∀ H' p', kept1 p H H' → H' p' = some (.lst ((if kp then xs else []) ++ bs.map V.bl)) → (p' = p ∨ H p' = none) → D.nx (σ.set j (some (.ref p'))) H') → t D σ H
section
variable {X : Cx} {i j : Nat} {a : Addr}
theorem iss_cons {st : Stmt} {rest : List Stmt} {kp : Bool} {bs cs : List Bool} (h1 : IsS X i j a [st] kp bs) (h2 : IsS X i j a rest true cs) (h1' : ∃ t, PS X st t ∧ ∀ (σ : L2.St) (H : Hp) (D : Ends) (p : Addr) (xs : List V), i ≠ j → σ[i]? = some (some (.ref a)) → σ[j]? = some (some (.ref p)) → H p = some (.lst xs) → xs.length + bs.length ≤ 1000 →
    (∀ H' p', kept1 p H H' → H' p' = some (.lst ((if kp then xs else []) ++ bs.map V.bl)) → (p' = p ∨ H p' = none) → D.nx (σ.set j (some (.ref p'))) H') → t D σ H) : IsS X i j a (st :: rest) kp (bs ++ cs) := by
  obtain ⟨t, pt, h1⟩ := h1'
  obtain ⟨u, pu, h2⟩ := h2.run
  refine ⟨_, pss_cons pt pu, fun σ H D p xs ij hi hj hp hl q => h1 σ H _ p xs ij hi hj hp (by rw [List.length_append] at hl; omega) fun H1 p1 k1 e1 c1 => ?_⟩
  rw [List.length_append] at hl
  have hjl : j < σ.length := (List.getElem?_eq_some_iff.mp hj).1
  refine h2 (σ.set j (some (.ref p1))) H1 D p1 _ ij (by rw [List.getElem?_set_ne (Ne.symm ij)]; exact hi) (List.getElem?_set_self hjl) e1 (by
    rw [List.length_append, List.length_map]
    cases kp
    · show (([] : List V).length + bs.length) + cs.length ≤ 1000
      rw [List.length_nil]
      omega
    · show (xs.length + bs.length) + cs.length ≤ 1000
      omega) fun H2 p2 k2 e2 c2 => ?_
  rw [List.set_set]
  refine q H2 p2 (fun y o ny hy => k2 y o (fun z => ?_) (k1 y o ny hy)) ?_ ?_
  · subst z
    rcases c1 with c1 | c1
    · exact ny c1
    · rw [c1] at hy; cases hy
  · rw [e2, if_pos rfl, List.map_append, List.append_assoc]
  · rcases c2 with c2 | c2
    · rw [c2]; exact c1
    · by_cases z : p2 = p
      · exact .inl z
      · refine .inr ?_
        cases e : H p2 with
        | none => rfl
        | some o =>
          rw [k1 p2 o z e] at c2
          cases c2
theorem iss_one {st : Stmt} {kp : Bool} {bs : List Bool} (h1' : ∃ t, PS X st t ∧ ∀ (σ : L2.St) (H : Hp) (D : Ends) (p : Addr) (xs : List V), i ≠ j → σ[i]? = some (some (.ref a)) → σ[j]? = some (some (.ref p)) → H p = some (.lst xs) → xs.length + bs.length ≤ 1000 →
    (∀ H' p', kept1 p H H' → H' p' = some (.lst ((if kp then xs else []) ++ bs.map V.bl)) → (p' = p ∨ H p' = none) → D.nx (σ.set j (some (.ref p'))) H') → t D σ H) : IsS X i j a [st] kp bs := by
  obtain ⟨t, pt, h1⟩ := h1'
  exact ⟨_, pss_one pt, h1⟩
structure Is1 (X : Cx) (i j : Nat) (a : Addr) (st : Stmt) (kp : Bool) (bs : List Bool) : Prop where
  run : ∃ t, PS X st t ∧ ∀ (σ : L2.St) (H : Hp) (D : Ends) (p : Addr) (xs : List V), i ≠ j → σ[i]? = some (some (.ref a)) → σ[j]? = some (some (.ref p)) → H p = some (.lst xs) → xs.length + bs.length ≤ 1000 →
    (∀ H' p', kept1 p H H' → H' p' = some (.lst ((if kp then xs else []) ++ bs.map V.bl)) → (p' = p ∨ H p' = none) → D.nx (σ.set j (some (.ref p'))) H') → t D σ H
theorem Is1.one {st : Stmt} {kp : Bool} {bs : List Bool} (h : Is1 X i j a st kp bs) : IsS X i j a [st] kp bs := iss_one h.run
theorem Is1.cons {st : Stmt} {rest : List Stmt} {kp : Bool} {bs cs : List Bool} (h : Is1 X i j a st kp bs) (h2 : IsS X i j a rest true cs) : IsS X i j a (st :: rest) kp (bs ++ cs) := iss_cons h.one h2 h.run
end
section
variable {cls : String → Value} {X : Cx} {W : WX}
end
end Mi

namespace Mi
open PySem PySem.Spec PyProof.Rows L2
def noW (K : PySem.W.Frag) : Bool := K.all fun e => notW e.2
def obsV (n : Nat) (fa : List He.Fa) (fn : List He.DefD) (ck : PySem.W.Frag → Bool) (g : Addr → Option Obj) : He.AlD × Bool :=
  (fun K : PySem.W.Frag => (He.obsD fa fn K, noW K && ck K)) (He.frG g (He.asD g n))
def hookV (n : Nat) (fa : List He.Fa) (fn : List He.DefD) (ck : PySem.W.Frag → Bool) : PySem.W.Hook where
  α := He.AlD × Bool
  obs := fun s => obsV n fa fn ck s.heap.get?
  val := fun _ => (He.valD fn, true)
  says := fun _ h => ∃ (K : PySem.W.Frag), K.In h ∧ (He.SaysD fa fn K ∧ ck K = true) ∧ noW K = true
  of := fun _ _ e => by
    have e1 := congrArg Prod.fst e
    have e2 := congrArg Prod.snd e
    obtain ⟨e3, e4⟩ := He.ba e2
    exact ⟨_, He.frG_in, ⟨e1, e4⟩, e3⟩
  keeps := fun _ _ _ ⟨K, hK, s⟩ k => ⟨K, PySem.W.Frag.In.keeps hK k, s⟩
theorem walk_ofM {l : PySem.W.OpenLaw} {n k : Nat} {q : Program} {loose : List Str} {XP : (Str → Option Value) → Heap → Prop} {YP : World → Heap → Prop} {d : DefRec} {CX : World → CXT} {x : Str}
    (hn : l.most = some n) (hn2 : n ≤ sizeLine) (hdf : d.params.defaults = []) (hr : Room k callerA)
    (F : ∀ (w : World) (mg : Str → Option Value) (fa : Addr) (h : Heap), YP w h → h.Ns mainGlobals mg → mg d.name = some (.ref fa) →
      ∃ (K : PySem.W.Frag) (fd : FuncData) (sp : Sp), K.In h ∧ (∀ (s : Shared) (u : Value), BindsTo s fd ⟨[u], []⟩ [(x, u)]) ∧
        (∀ (H : Hp) (a : Addr) (ns : List Int), ns.length ≤ n → (∀ k ∈ ns, Builtin.Int.intBits k ≤ 1048576) → Only H → SqL K H a (ns.map V.int) → sp [.ref a] H (fun v _ => v = .bl true) fun _ _ _ => False) ∧
        ∀ base : Heap, K.In base → base.Ns mainGlobals mg → FnOk l.prog w K mg base (CX w) k fa fd [x] sp)
    (hCX : ∀ (w : World) (H : Hp) (s : Shared) (e : Value) (s' : Shared), CX w [] H s (fun _ _ _ => False) e s' → False) :
    PySem.W.WalkO q loose XP YP l.row.toRowW d [] (fun f vs => PySem.call f vs) := by
  refine Att.attach_callB hn hdf fun w s₀ s₁ mg mb fa o pm cd doc a vs ns G Y ho hd hcd hmg hobj hints hlen hbits hg => ?_
  obtain ⟨K, fd, sp, KX, hb, hsp, hF⟩ := F w mg fa _ Y G.T.g hmg
  exact law_call KX G.T.g G.T.b G.T.builtins G.T.nolimit hg hobj hints (Nat.le_trans hlen hn2) hr hF hb (fun H hO hS => hsp H a ns hlen hbits hO hS) fun H e s' => hCX w H s₁ e s'
theorem noW_tb {K : PySem.W.Frag} (h : noW K = true) (H : Hp) : TbAll K H := fun P ⟨c, h1, _⟩ => by
  exfalso
  unfold PySem.W.codeIn at h1
  simp only at h1
  split at h1
  · rename_i vs sl hl
    have q := List.all_eq_true.mp h _ (mem_lookup' hl)
    split at h1
    · rename_i hv
      rw [notW_no rfl hv h1] at q
      cases q
    · cases h1
  · cases h1
def NoLK (K : PySem.W.Frag) : Prop := ∀ a o, K.lookup a = some o → o.cls ≠ .type "list"
end Mi

namespace Mi
open PySem PySem.Spec PyProof.Rows L2
def topS (i : Nat) : Stmt := PySem.Challenge.pw_lastjump_k26_board.main.body.getD i (.Pass ⟨0, 0, 0, 0⟩)
abbrev s__law_seed : Stmt := topS 24
abbrev s__law_cell : Stmt := topS 22
abbrev s__law_world : Stmt := topS 26
abbrev s__law_pick : Stmt := topS 25
abbrev s__law_stand : Stmt := topS 27
abbrev s__law_mix : Stmt := topS 23
abbrev s__law_put : Stmt := topS 28
abbrev s__law_start : Stmt := topS 31
abbrev s_is_within : Stmt := topS 10
abbrev s_is_jump : Stmt := topS 11
abbrev s_is_world : Stmt := topS 12
abbrev s_look : Stmt := topS 13
abbrev s_is_stand : Stmt := topS 14
abbrev s_look_stand : Stmt := topS 15
abbrev s_Board_init : Stmt := metS (topS 20) 0
abbrev s__law_steps : Stmt := topS 29
abbrev s__law_moves : Stmt := topS 30
abbrev s_has : Stmt := topS 17
abbrev s_put : Stmt := topS 16
abbrev s_Board_go : Stmt := metS (topS 20) 4
abbrev s_Board_jump : Stmt := metS (topS 20) 5
abbrev s_Board_back : Stmt := metS (topS 20) 6
abbrev s_Board_again : Stmt := metS (topS 20) 7
abbrev s__law_board : Stmt := topS 33
abbrev s__law_in : Stmt := topS 32
abbrev s__law_boarded : Stmt := topS 34
abbrev s_Board_done : Stmt := metS (topS 20) 2
abbrev s_Board_stand : Stmt := metS (topS 20) 1
abbrev s_moves_of : Stmt := topS 18
abbrev s_Board_can : Stmt := metS (topS 20) 3
abbrev s_law : Stmt := topS 35
def prL : List String := ["JumpError", "BadWorld", "BadStand", "BadJump", "Nothing"]
def dd__law_seed : He.DefD := ⟨("_law_seed", none), "_law_seed", "_law_seed", defArgs s__law_seed, defBody s__law_seed, defScope s__law_seed, [], []⟩
def dd__law_cell : He.DefD := ⟨("_law_cell", none), "_law_cell", "_law_cell", defArgs s__law_cell, defBody s__law_cell, defScope s__law_cell, [], []⟩
def dd__law_world : He.DefD := ⟨("_law_world", none), "_law_world", "_law_world", defArgs s__law_world, defBody s__law_world, defScope s__law_world, [], []⟩
def dd__law_pick : He.DefD := ⟨("_law_pick", none), "_law_pick", "_law_pick", defArgs s__law_pick, defBody s__law_pick, defScope s__law_pick, [], []⟩
def dd__law_stand : He.DefD := ⟨("_law_stand", none), "_law_stand", "_law_stand", defArgs s__law_stand, defBody s__law_stand, defScope s__law_stand, [], []⟩
def dd__law_mix : He.DefD := ⟨("_law_mix", none), "_law_mix", "_law_mix", defArgs s__law_mix, defBody s__law_mix, defScope s__law_mix, [], []⟩
def dd__law_put : He.DefD := ⟨("_law_put", none), "_law_put", "_law_put", defArgs s__law_put, defBody s__law_put, defScope s__law_put, [], []⟩
def dd__law_start : He.DefD := ⟨("_law_start", none), "_law_start", "_law_start", defArgs s__law_start, defBody s__law_start, defScope s__law_start, [], []⟩
def dd_is_within : He.DefD := ⟨("is_within", none), "is_within", "is_within", defArgs s_is_within, defBody s_is_within, defScope s_is_within, [], []⟩
def dd_is_jump : He.DefD := ⟨("is_jump", none), "is_jump", "is_jump", defArgs s_is_jump, defBody s_is_jump, defScope s_is_jump, [], []⟩
def dd_is_world : He.DefD := ⟨("is_world", none), "is_world", "is_world", defArgs s_is_world, defBody s_is_world, defScope s_is_world, [], []⟩
def dd_look : He.DefD := ⟨("look", none), "look", "look", defArgs s_look, defBody s_look, defScope s_look, [], []⟩
def dd_is_stand : He.DefD := ⟨("is_stand", none), "is_stand", "is_stand", defArgs s_is_stand, defBody s_is_stand, defScope s_is_stand, [], []⟩
def dd_look_stand : He.DefD := ⟨("look_stand", none), "look_stand", "look_stand", defArgs s_look_stand, defBody s_look_stand, defScope s_look_stand, [], []⟩
def dd_Board_init : He.DefD := ⟨("Board", some "__init__"), "__init__", "Board.__init__", defArgs s_Board_init, defBody s_Board_init, defScope s_Board_init, [], []⟩
def dd__law_steps : He.DefD := ⟨("_law_steps", none), "_law_steps", "_law_steps", defArgs s__law_steps, defBody s__law_steps, defScope s__law_steps, [], []⟩
def dd__law_moves : He.DefD := ⟨("_law_moves", none), "_law_moves", "_law_moves", defArgs s__law_moves, defBody s__law_moves, defScope s__law_moves, [], []⟩
def dd_has : He.DefD := ⟨("has", none), "has", "has", defArgs s_has, defBody s_has, defScope s_has, [], []⟩
def dd_put : He.DefD := ⟨("put", none), "put", "put", defArgs s_put, defBody s_put, defScope s_put, [], []⟩
def dd_Board_go : He.DefD := ⟨("Board", some "go"), "go", "Board.go", defArgs s_Board_go, defBody s_Board_go, defScope s_Board_go, [], []⟩
def dd_Board_jump : He.DefD := ⟨("Board", some "jump"), "jump", "Board.jump", defArgs s_Board_jump, defBody s_Board_jump, defScope s_Board_jump, [], []⟩
def dd_Board_back : He.DefD := ⟨("Board", some "back"), "back", "Board.back", defArgs s_Board_back, defBody s_Board_back, defScope s_Board_back, [], []⟩
def dd_Board_again : He.DefD := ⟨("Board", some "again"), "again", "Board.again", defArgs s_Board_again, defBody s_Board_again, defScope s_Board_again, [], []⟩
def dd__law_board : He.DefD := ⟨("_law_board", none), "_law_board", "_law_board", defArgs s__law_board, defBody s__law_board, defScope s__law_board, [], []⟩
def dd__law_in : He.DefD := ⟨("_law_in", none), "_law_in", "_law_in", defArgs s__law_in, defBody s__law_in, defScope s__law_in, [], []⟩
def dd__law_boarded : He.DefD := ⟨("_law_boarded", none), "_law_boarded", "_law_boarded", defArgs s__law_boarded, defBody s__law_boarded, defScope s__law_boarded, [], []⟩
def dd_Board_done : He.DefD := ⟨("Board", some "done"), "done", "Board.done", defArgs s_Board_done, defBody s_Board_done, defScope s_Board_done, [], []⟩
def dd_Board_stand : He.DefD := ⟨("Board", some "stand"), "stand", "Board.stand", defArgs s_Board_stand, defBody s_Board_stand, defScope s_Board_stand, [], []⟩
def dd_moves_of : He.DefD := ⟨("moves_of", none), "moves_of", "moves_of", defArgs s_moves_of, defBody s_moves_of, defScope s_moves_of, [], []⟩
def dd_Board_can : He.DefD := ⟨("Board", some "can"), "can", "Board.can", defArgs s_Board_can, defBody s_Board_can, defScope s_Board_can, [], []⟩
def dd_law : He.DefD := ⟨("law", none), "law", "law", defArgs s_law, defBody s_law, defScope s_law, [], []⟩
def fnL : List He.DefD := [dd__law_seed, dd__law_cell, dd__law_world, dd__law_pick, dd__law_stand, dd__law_mix, dd__law_put, dd__law_start, dd_is_within, dd_is_jump, dd_is_world, dd_look, dd_is_stand, dd_look_stand, dd_Board_init, dd__law_steps, dd__law_moves, dd_has, dd_put, dd_Board_go, dd_Board_jump, dd_Board_back, dd_Board_again, dd__law_board, dd__law_in, dd__law_boarded, dd_Board_done, dd_Board_stand, dd_moves_of, dd_Board_can, dd_law]
def faL : List He.Fa := [.glo "_law_seed", .glo "_law_cell", .glo "_law_world", .glo "_law_pick", .glo "_law_stand", .glo "_law_mix", .glo "_law_put", .glo "_law_start", .glo "is_within", .glo "is_jump", .glo "is_world", .glo "look", .glo "is_stand", .glo "look_stand", .glo "_law_steps", .glo "_law_moves", .glo "has", .glo "put", .meth "Board" "go", .meth "Board" "jump", .meth "Board" "back", .meth "Board" "again", .glo "_law_board", .glo "_law_in", .glo "_law_boarded", .meth "Board" "done", .meth "Board" "stand", .glo "moves_of", .meth "Board" "can", .glo "law", .glo "Board", .mkr "Board", .cls "Board", .noat "Board" "world", .noat "Board" "row", .noat "Board" "numbers", .noat "Board" "undone", .free "len", .free "range", .free "int", .free "sorted", .free "set", .free "tuple", .free "list", .free "isinstance", .free "bool", .free "zip", .free "str", .free "enumerate", .free "dict", .int "MOST_CELLS" 12, .int "MOST_JUMPS" 16, .glo "JumpError", .glo "BadWorld", .glo "BadStand", .glo "BadJump", .glo "Nothing", .exc "BadWorld", .exc "BadStand", .exc "BadJump", .exc "Nothing", .exm "JumpError" "Nothing" false, .exm "BadWorld" "Nothing" false, .exm "BadStand" "Nothing" false, .exm "BadJump" "Nothing" false, .exm "Nothing" "Nothing" true, .exm "JumpError" "BadJump" false, .exm "BadWorld" "BadJump" false, .exm "BadStand" "BadJump" false, .exm "BadJump" "BadJump" true, .exm "Nothing" "BadJump" false]
abbrev Ro : PySem.W.OpenRow := PySem.W.OpenLaw.row PySem.Challenge.rw_lastjump_k26_board
def ck (K : PySem.W.Frag) : Bool := true
abbrev hk : PySem.W.Hook := hookV 4 faL fnL ck
def ob (s : PySem.W.SharedT) : He.AlD × Bool := obsV 4 faL fnL ck (HandSHeadRun.getT s)
theorem ob_eq (s : PySem.W.SharedT) : ob s = hk.obs s.abs := congrArg (obsV 4 faL fnL ck) (funext (HandSHeadRun.getT_eq s))
def nmL0 : List Str := ["_wall", "JumpError", "BadWorld", "BadStand", "BadJump", "Nothing", "MOST_CELLS", "MOST_JUMPS", "is_within", "is_jump", "is_world", "look", "is_stand", "look_stand", "put"]
def nmL1 : List Str := ["has", "moves_of", "Board", "_law_cell", "_law_mix", "_law_seed", "_law_pick", "_law_world", "_law_stand", "_law_put", "_law_steps", "_law_moves", "_law_start", "_law_in", "_law_board"]
def nmL2 : List Str := ["_law_boarded"]
def nmL : List Str := nmL0 ++ nmL1 ++ nmL2
theorem run (w : World) : HandSHeadRun.RunEq Ro (PySem.W.view Ro.prog [35]) hk ob 6000 nmL w := by
  intro os
  kernel_rfl
end Mi

namespace Mi
open PySem PySem.Spec PyProof.Rows L2
section
variable {prog : Program} {w : World} {A : Around} {E : Value → Shared → Prop} {s : Shared} {v : Value} {Q : Value → Shared → Prop}
end
section
variable {cls : String → Value} {X : Cx} {W : WX}
end
end Mi

namespace Mi
open PySem PySem.Spec PyProof.Rows L2
section
variable {cls : String → Value} {X : Cx} {W : WX}
end
end Mi

namespace Mi
open PySem PySem.Spec PyProof.Rows L2
section
variable {cls : String → Value} {X : Cx} {W : WX}
theorem RepAll.dropL {K : PySem.W.Frag} {H : Hp} {vs : List V} {ds : List Da} (h : RepAll K H vs ds) : RepAll K H vs.dropLast ds.dropLast := by
  rw [List.dropLast_eq_take, List.dropLast_eq_take, h.length]
  exact h.take _
theorem Ok.other {K : PySem.W.Frag} {F B H : Hp} {σ : L2.St} {r : Env} {a : Addr} {xs : List V} {o' : HO} (k : Ok K F B H σ r) (ha : H a = some (.lst xs)) (fa : F a = none) (ba : B a = none) (na : ∀ (i : Nat) (d : Da), r[i]? = some (.ow d) → σ[i]? ≠ some (some (.ref a))) (nc : ∀ i, ¬ FtC H σ r i a) : Ok K F B (upd H a o') σ r := by
  refine ⟨k.bh.put ba (nc_plain ha), k.fh.put fa (nc_plain ha), k.len, fun i s e => ?_, k.inj, k.tb, k.ci.mv (fun i x f => f.to (fun _ z => z) (fun _ _ => rfl) fun y g => upd_ne fun z => nc i (z ▸ g)) fun _ _ o => .inl o⟩
  have h := k.sl i s e
  cases s with
  | un => trivial
  | pn v => exact h
  | bd b => exact h
  | cm c =>
    obtain ⟨p, h1, h2⟩ := h
    exact ⟨p, h1, h2.mv (Le.refl _) fun x hx => ⟨upd_ne fun z => nc i (z ▸ ⟨c, p, e, h1, hx⟩), rfl⟩⟩
  | fz d => exact h
  | ow d =>
    obtain ⟨p, h1, h2, h3, h4⟩ := h
    have ne : p ≠ a := fun z => na i d e (by rw [h1, z])
    refine ⟨p, h1, h2, h3, ?_⟩
    cases d with
    | list ds =>
      obtain ⟨ys, g1, g2⟩ := h4
      exact ⟨ys, by rw [upd_ne ne]; exact g1, g2⟩
    | dict ds =>
      obtain ⟨ys, g1, g2⟩ := h4
      exact ⟨ys, by rw [upd_ne ne]; exact g1, g2⟩
    | none => exact h4.elim
    | bool b => exact h4.elim
    | int b => exact h4.elim
    | str b => exact h4.elim
    | tuple b => exact h4.elim
end
end Mi

namespace Mi
open PySem PySem.Spec PyProof.Rows L2
section
variable {cls : String → Value} {X : Cx} {W : WX}
theorem Def.mono {cls : String → Value} {P : Program} {w : World} {K : PySem.W.Frag} {mg : Str → Option Value} {base : Heap} {x : Str} {j k : Nat} {m : List Da → R Da} (d : Def cls P w K mg base x j m) (h : j ≤ k) : Def cls P w K mg base x k m := by
  obtain ⟨f, fd, ps, a, b, c, F⟩ := d.ex
  exact ⟨f, fd, ps, a, b, c, F.mono h⟩
end
end Mi

namespace Mi
open PySem PySem.Spec PyProof.Rows L2
section
variable {M : Model} {A : Around} {E : Value → Shared → Prop} {s : Shared} {base : Heap} {env : PySem.Env} {outer : List PySem.Env} {L e : Addr} {Z : Obj → Prop}
end
section
variable {X : Cx} {W : WX} {pins : List (Addr × Obj)} {σ : L2.St} {H3 : Hp} {s3 : Shared} {scope : Scope} {ce : PySem.Env} {fp : List Addr}
end
end Mi

namespace Mi
open PySem PySem.Spec PyProof.Rows L2
section
variable {X : Cx}
end
end Mi

namespace Mi
open PySem PySem.Spec PyProof.Rows L2
section
variable {cls : String → Value} {X : Cx} {W : WX}
end
end Mi

namespace Mi
open PySem PySem.Spec PyProof.Rows L2
section
variable {cls : String → Value} {X : Cx} {W : WX}
def putR : List Nat → List Sl → Env → Env
  | i :: is, s :: ss, r => putR is ss (r.set i s)
  | _, _, r => r
def putS : List Nat → List V → L2.St → L2.St
  | i :: is, v :: vs, σ => putS is vs (σ.set i (some v))
  | _, _, σ => σ
theorem XAll.putL {K : PySem.W.Frag} {F H0 B H : Hp} (fh : Le F H0) : ∀ (is : List Nat) (vs : List V) (ss : List Sl) (σ : L2.St) (r : Env), XAll K H0 B H vs ss → Ok K F B H σ r →
    (∀ (j : Nat) (e : Da) (q : Addr), r[j]? = some (.ow e) → σ[j]? = some (some (.ref q)) → ∀ (i' : Nat) (e' : Da) (p : Addr), ss[i']? = some (.ow e') → vs[i']? = some (.ref p) → q ≠ p) → (∀ (j : Nat) (a : Addr), FtC H σ r j a → H0 a ≠ none) → Ok K F B H (putS is vs σ) (putR is ss r)
  | [], _, _, _, _, _, k, _, _ => by
    cases ‹List V› <;> cases ‹List Sl› <;> exact k
  | i :: is, [], ss, σ, r, h, k, _, _ => by
    cases h
    exact k
  | i :: is, v :: vs, [], σ, r, h, k, _, _ => by cases h
  | i :: is, v :: vs, s :: ss, σ, r, h, k, hn, hc => by
    have k' := h.put fh (i := i) k (fun j e q _ h1 h2 p d e1 e2 => hn j e q h1 h2 0 d p (by rw [e2]; rfl) (by rw [e1]; rfl)) hc
    have ht : XAll K H0 B H vs ss := by
      cases h with
      | fz _ r => exact r
      | ow _ _ _ _ r => exact r
    refine XAll.putL fh is vs ss _ _ ht k' (fun j e q h1 h2 i' e' p h3 h4 => ?_) fun j a f => hc j a (ftc_set h.nc f)
    rcases set_get h1 with ⟨c, h1'⟩ | ⟨c, h1'⟩
    · subst c
      subst h1'
      rcases set_get h2 with ⟨_, h2'⟩ | ⟨c, _⟩
      · cases h2'
        cases h with
        | ow _ _ _ h4' _ => exact fun z => h4' i' e' p h3 h4 z.symm
      · exact absurd rfl c
    · rcases set_get h2 with ⟨c2, _⟩ | ⟨_, h2'⟩
      · exact absurd c2 c
      · exact hn j e q h1' h2' (i' + 1) e' p h3 h4
theorem XAll.len {K : PySem.W.Frag} {H0 B H : Hp} : ∀ {vs : List V} {ss : List Sl}, XAll K H0 B H vs ss → vs.length = ss.length
  | _, _, .nil => rfl
  | _, _, .fz _ r => by rw [List.length_cons, List.length_cons, r.len]
  | _, _, .ow _ _ _ _ r => by rw [List.length_cons, List.length_cons, r.len]
structure DET (cls : String → Value) (X : Cx) (W : WX) (e : Expr) (f : Env → R Da) : Prop where
  run : ∃ t, PET X e t ∧ ∀ (F B H : Hp) (σ : L2.St) (r : Env) (Q : VK), Ok X.K F B H σ r → Pw cls B H σ W (WfE X.K Q) (f r) → t σ H Q
structure DAT (cls : String → Value) (X : Cx) (W : WX) (es : List Expr) (f : Env → R (List Da)) : Prop where
  run : ∃ t, PAT X es t ∧ ∀ (F B H : Hp) (σ : L2.St) (r : Env) (Q : List V → Hp → Prop), Ok X.K F B H σ r → Pw cls B H σ W (WfA X.K Q) (f r) → t σ H Q
theorem DE.t {e : Expr} {f : Env → R Da} (h : DE cls X W e f) : DET cls X W e f := by
  obtain ⟨t, pt, h⟩ := h.run
  exact ⟨t, CwR.PET.of pt, h⟩
end
end Mi

namespace Mi
open PySem PySem.Spec PyProof.Rows L2
abbrev KD := List (Da × Da)
def delH (H : Hp) (p : Addr) : Hp := fun a => if a = p then none else H a
theorem delH_p {H : Hp} {p : Addr} : delH H p p = none := if_pos rfl
theorem delH_ne {H : Hp} {p a : Addr} (h : a ≠ p) : delH H p a = H a := if_neg h
theorem delH_some {H : Hp} {p a : Addr} {o : HO} (h : delH H p a = some o) : a ≠ p ∧ H a = some o := by
  by_cases c : a = p
  · subst c
    rw [delH_p] at h
    cases h
  · rw [delH_ne c] at h
    exact ⟨c, h⟩
theorem delH_le (H : Hp) (p : Addr) : Le (delH H p) H := Le.ext fun _ _ h => (delH_some h).2
theorem tabS_del {H : Hp} {a p : Addr} {q : Str} (t : LamX.TabS H a q) (np : a ≠ p) (hc : ∀ c q, H p ≠ some (LamX.CodeO c q)) : LamX.TabS (delH H p) a q := by
  obtain ⟨ps2, t1, t2, t3⟩ := t
  refine ⟨ps2, by rw [delH_ne np]; exact t1, t2, fun pos cv hcv => ?_⟩
  obtain ⟨c, e1, e2⟩ := t3 pos cv hcv
  exact ⟨c, e1, by rw [delH_ne (fun z => hc c q (by rw [← z]; exact e2))]; exact e2⟩
theorem Le.del {F H : Hp} {p : Addr} (e : Le F H) (h : F p = none) (hc : ∀ c q, H p ≠ some (LamX.CodeO c q)) : Le F (delH H p) := fun a u ha => by
  have q := e a u ha
  have np := ne_of_none ha h
  cases u with
  | tbl ps =>
    obtain ⟨⟨ps', q1⟩, q2⟩ := q
    exact ⟨⟨ps', by rw [delH_ne np]; exact q1⟩, fun t => tabS_del (q2 t) np hc⟩
  | _ =>
    show delH H p a = _
    rw [delH_ne np]
    exact q
structure Chg (B H : Hp) (p : Addr) (B' H' : Hp) : Prop where
  gr : Gr (delH H p) B B'
  bh : Le B' H'
  hh : Le (delH H p) H'
  bp : B' p = none
  nc : ∀ c q, H' p ≠ some (LamX.CodeO c q)
theorem Chg.refl {B H : Hp} {p : Addr} (b : Le B H) (bp : B p = none) (nc : ∀ c q, H p ≠ some (LamX.CodeO c q)) : Chg B H p B H := ⟨Gr.refl _ _, b, delH_le H p, bp, nc⟩
theorem Chg.le {B H B' H' : Hp} {p : Addr} (c : Chg B H p B' H') : Le (delH H p) (delH H' p) := c.hh.del delH_p c.nc
theorem Chg.trans {B H B1 H1 B2 H2 : Hp} {p : Addr} (a : Chg B H p B1 H1) (b : Chg B1 H1 p B2 H2) : Chg B H p B2 H2 := ⟨a.gr.trans (b.gr.weak a.le), b.bh, a.le.trans b.hh, b.bp, b.nc⟩
theorem Chg.upd {B H : Hp} {p : Addr} {o : HO} (b : Le B H) (bp : B p = none) (nc : ∀ c q, H p ≠ some (LamX.CodeO c q)) (po : PlainO o := by exact True.intro) : Chg B H p B (upd H p o) :=
  ⟨Gr.refl _ _, b.put bp nc, (delH_le H p).put delH_p nc, bp, nc_plain upd_same po⟩
theorem own_nc {K : PySem.W.Frag} {F B H : Hp} {σ : L2.St} {r : Env} {i : Nat} {p : Addr} {d : Da} (k : Ok K F B H σ r) (e : r[i]? = some (.ow d)) (hp : σ[i]? = some (some (.ref p))) : F p = none ∧ B p = none ∧ OwnD K B H p d := by
  obtain ⟨p', a, b1, b2, b3⟩ := k.sl i _ e
  rw [hp] at a
  cases a
  exact ⟨b1, b2, b3⟩
theorem OwnD.plain {K : PySem.W.Frag} {B H : Hp} {p : Addr} {d : Da} (o : OwnD K B H p d) : ∃ u, H p = some u ∧ PlainO u := by
  cases d with
  | list ds => obtain ⟨xs, h, _⟩ := o; exact ⟨_, h, True.intro⟩
  | dict ds => obtain ⟨xs, h, _⟩ := o; exact ⟨_, h, True.intro⟩
  | none => exact o.elim
  | bool b => exact o.elim
  | int b => exact o.elim
  | str b => exact o.elim
  | tuple b => exact o.elim
theorem OwnD.mono {K : PySem.W.Frag} {B B' H : Hp} {p : Addr} {d : Da} (o : OwnD K B H p d) (l : Le B B') : OwnD K B' H p d := by
  cases d with
  | list ds => obtain ⟨xs, h, r⟩ := o; exact ⟨xs, h, r.mono l⟩
  | dict ds => obtain ⟨xs, h, r⟩ := o; exact ⟨xs, h, r.mono l⟩
  | none => exact o.elim
  | bool b => exact o.elim
  | int b => exact o.elim
  | str b => exact o.elim
  | tuple b => exact o.elim
def PmE (K : PySem.W.Frag) (B H : Hp) (p : Addr) (Q : VK) : R (Da × KD) → Prop
  | .ok (d, kd) => ∀ B' H' v, Chg B H p B' H' → OwnD K B' H' p (.dict kd) → Rep K B' v d → Q v H'
  | _ => False
def cM (K : PySem.W.Frag) (i : Nat) (f : Env → R (Da × KD)) : TE := fun σ H Q => ∃ F B r p kd, Ok K F B H σ r ∧ r[i]? = some (.ow (.dict kd)) ∧ σ[i]? = some (some (.ref p)) ∧ PmE K B H p Q (f r)
structure DEm (cls : String → Value) (X : Cx) (i : Nat) (e : Expr) (f : Env → R (Da × KD)) : Prop where
  run : ∃ t, PE X e t ∧ ∀ (F B H : Hp) (σ : L2.St) (r : Env) (p : Addr) (kd : KD) (Q : VK), Ok X.K F B H σ r → r[i]? = some (.ow (.dict kd)) → σ[i]? = some (some (.ref p)) → PmE X.K B H p Q (f r) → t σ H Q
theorem DEm.pe {cls : String → Value} {X : Cx} {i : Nat} {e : Expr} {f : Env → R (Da × KD)} (h : DEm cls X i e f) : PE X e (cM X.K i f) := by
  obtain ⟨t, pt, h⟩ := h.run
  exact ⟨fun pins s σ H Q I ⟨F, B, r, p, kd, k, e1, e2, q⟩ => pt.run pins s σ H Q I (h F B H σ r p kd Q k e1 e2 q)⟩
def spM (K : PySem.W.Frag) (m : List Da → KD → R (Da × KD)) : Sp := fun vs H Q E => ∃ B us ds p kvs kd, vs = us ++ [.ref p] ∧ Le B H ∧ RepAll K B us ds ∧ B p = none ∧ H p = some (.dK kvs) ∧ RepKV K B kvs kd ∧ TbAll K (delH H p) ∧ PmE K B H p Q (m ds kd)
structure DefM (P : Program) (w : World) (K : PySem.W.Frag) (mg : Str → Option Value) (base : Heap) (x : Str) (k : Nat) (m : List Da → KD → R (Da × KD)) : Prop where
  ex : ∃ f fd ps, mg x = some (.ref f) ∧ PySem.W.keepIn K (.ref f) = true ∧ Binds K fd ps [] ∧ FnOk P w K mg base (L2.CX P w) k f fd ps (spM K m)
section
variable {cls : String → Value} {X : Cx} {W : WX}
def PmS (K : PySem.W.Frag) (B H : Hp) (p : Addr) (σ : L2.St) (D : Ends) : R KD → Prop
  | .ok kd => ∀ B' H', Chg B H p B' H' → OwnD K B' H' p (.dict kd) → D.nx σ H'
  | _ => False
structure DSm (cls : String → Value) (X : Cx) (i : Nat) (st : Stmt) (g : Env → R KD) : Prop where
  run : ∃ t, PS X st t ∧ ∀ (F B H : Hp) (σ : L2.St) (r : Env) (p : Addr) (kd : KD) (D : Ends), Ok X.K F B H σ r → r[i]? = some (.ow (.dict kd)) → σ[i]? = some (some (.ref p)) → PmS X.K B H p σ D (g r) → t D σ H
end
end Mi

namespace Mi
open PySem PySem.Spec PyProof.Rows L2
structure BCls (K : PySem.W.Frag) : Prop where
  cl : Cls K (bC K)
  at0 : NoAttr K (bC K) "world"
  at1 : NoAttr K (bC K) "row"
  at2 : NoAttr K (bC K) "numbers"
  at3 : NoAttr K (bC K) "undone"
def bNm : Nat → Str
  | 0 => "world"
  | 1 => "row"
  | 2 => "numbers"
  | _ => "undone"
def bFd (b : BS) : Nat → Da
  | 0 => b.w
  | 1 => .list b.row
  | 2 => .list b.nums
  | _ => .list b.und
theorem BdF.fld {K : PySem.W.Frag} (c : BCls K) {B : Hp} {x : Addr} {b : BS} (h : BdF K B x b) (j : Nat) : ∃ dx fs v, B x = some (.ins (bC K) dx fs) ∧ NoAttr K (bC K) (bNm j) ∧ fs.lookup (bNm j) = some v ∧ Rep K B v (bFd b j) := by
  obtain ⟨dx, q1, q2, q3, wv, xs1, xs2, xs3, h1, h2, h3, h4, h5, h6, h7, h8⟩ := h.ex
  match j with
  | 0 => exact ⟨dx, _, wv, h1, c.at0, rfl, h5⟩
  | 1 => exact ⟨dx, _, .ref q1, h1, c.at1, rfl, .lst (.inl (.inl h2)) h6⟩
  | 2 => exact ⟨dx, _, .ref q2, h1, c.at2, rfl, .lst (.inl (.inl h3)) h7⟩
  | j + 3 => exact ⟨dx, _, .ref q3, h1, c.at3, rfl, .lst (.inl (.inl h4)) h8⟩
def eFld (i j : Nat) : Env → R Da := fun r => match r[i]? with
  | some (.bd b) => .ok (bFd b j)
  | _ => .no
section
variable {cls : String → Value} {X : Cx} {W : WX}
theorem de_fld (i j : Nat) (c : BCls X.K) {x f : Str} {p pos : Pos} (hf : f = bNm j := by rfl) (hN : X.N[i]? = some x := by rfl) (hv : Vis X.env.scope x := by first | exact Or.inl rfl | exact Or.inr (Or.inl rfl) | exact Or.inr (Or.inr rfl)) (hd : (x == ("__debug__" : Str)) = false := by decide) (hcd : (x == ("__classdict__" : Str)) = false := by decide)
    (hb : attributeBase (.Name x p) f X.env (eval (.Name x p) X.env) = eval (.Name x p) X.env := by rfl) : DE cls X W (.Attribute (.Name x p) f pos) (eFld i j) := by
  subst hf
  refine ⟨_, pe_fld (pe_var hN hv hd hcd) hb, fun F B H σ r Q k q => ?_⟩
  unfold eFld at q
  split at q
  · rename_i b e0
    obtain ⟨a, h1, h2⟩ := k.sl i _ e0
    obtain ⟨dx, fs, v, g1, g2, g3, g4⟩ := h2.fld c j
    exact ⟨.ref a, h1, a, bC X.K, dx, fs, v, rfl, k.bh.at g1, c.cl, g2, g3, q B H (Stp.refl k.bh) v g4⟩
  · exact q.elim
def spB (K : PySem.W.Frag) (cls : String → Value) (mm : BS → List Da → R Da) : Sp := fun vs H Q E => ∃ B x b us ds, vs = .ref x :: us ∧ Le B H ∧ BdF K B x b ∧ RepAll K B us ds ∧ TbAll K H ∧ match mm b ds with
  | .ok d => ∀ B' H' v, Stp B H B' H' → Rep K B' v d → Q v H'
  | .er c => ∀ H', Le H H' → E (cls c) none H'
  | .no => False
structure DefB (cls : String → Value) (P : Program) (w : World) (K : PySem.W.Frag) (mg : Str → Option Value) (base : Heap) (m : Str) (k : Nat) (mm : BS → List Da → R Da) : Prop where
  ex : ∃ f fd ps, Meth K (bC K) m f ∧ Binds K fd ps [] ∧ FnOk P w K mg base (L2.CX P w) k f fd ps (spB K cls mm)
structure RawB (K : PySem.W.Frag) (m qual : Str) (st : Stmt) : Prop where
  ex : ∃ f fd, Fun K m qual st f fd ∧ Meth K (bC K) m f
theorem pe_methS0 {CX : CXT} {k : Nat} {C f : Addr} {m : Str} {fd : FuncData} {ps : List Str} {sp : Sp} {E : L2.St → XK} {o : Expr} {ta : TE} {apos pos : Pos} {pl : Sem Bool} (he : PE X o ta) (c : Cls X.K C) (hm : Meth X.K C m f) (F : FnOk X.prog X.w X.K X.mg X.base CX k f fd ps sp) (hr : Room k X.A) (hb : Binds X.K fd ps []) (hx : ∀ σ, PassesAt CX X σ (E σ))
    (ht : eval (.Call (.Attribute o m apos) [] [] pos) X.env = (do
      let ov ← eval o X.env
      standAt apos.atName
      let (f, first) ← holding [ov] (getMethod ov m pl)
      callWith pos f first (backTo pos (starEach [] X.env)) (backToKw pos (keywordEach [] X.env))) := by rfl) :
    PE X (.Call (.Attribute o m apos) [] [] pos) (fun σ H Q => ta σ H fun x H1 => ∃ a dx fs, x = .ref a ∧ H1 a = some (.ins C dx fs) ∧ fs.lookup m = none ∧ sp [x] H1 Q (E σ)) := by
  refine ⟨fun pins s σ H Q I h => ?_⟩
  refine PySem.W.methodCall_KW (pl := pl) (thn (he.run pins s σ H _ I h) fun u s1 ⟨x, H1, I1, rx, a, dx, fs, ex, ea, l, q⟩ => ?_) ht
  subst ex
  obtain rfl : u = Value.ref a := rx
  refine getmeth_ok I1 ea c hm l ?_
  exact PySem.W.callWith_K0 (first := [.ref a]) I1.kIn hm.kp (run_fnS (us := [.ref a]) (vs := [.ref a]) F hr hb (hx σ) I1 (.cons rfl .nil) q)
abbrev noField (m : Str) : Prop := m ≠ "world" ∧ m ≠ "row" ∧ m ≠ "numbers" ∧ m ≠ "undone"
theorem lookup_none {m : Str} (n : noField m) (wv q1 q2 q3 : V) : [(("world" : Str), wv), ("row", q1), ("numbers", q2), ("undone", q3)].lookup m = none := by
  obtain ⟨n1, n2, n3, n4⟩ := n
  simp only [List.lookup, beq_eq_false_iff_ne.mpr n1, beq_eq_false_iff_ne.mpr n2, beq_eq_false_iff_ne.mpr n3, beq_eq_false_iff_ne.mpr n4]
end
def envB (n : Nat) (b : BS) (ds : List Da) : Env := .bd b :: (ds.map Sl.fz ++ List.replicate (n - (ds.length + 1)) .un)
def fnB (np n : Nat) (g : Env → SR) : BS → List Da → R Da := fun b ds => if ds.length + 1 = np then outS (g (envB n b ds)) else .no
theorem ok_startB {K : PySem.W.Frag} {B H : Hp} {N : List Str} {x : Addr} {b : BS} {vs : List V} {ds : List Da} (l : Le B H) (hb : BdF K B x b) (h : RepAll K B vs ds) (tb : TbAll K H) : Ok K H B H (start N (.ref x :: vs)) (envB N.length b ds) := by
  have hl := h.length
  have shape : ∀ (i : Nat) (s : Sl), (envB N.length b ds)[i]? = some s → s = .un ∨ (i = 0 ∧ s = .bd b) ∨ ∃ j d, i = j + 1 ∧ s = .fz d ∧ (ds.map Sl.fz)[j]? = some (.fz d) ∧ j < ds.length := by
    intro i s e
    unfold envB at e
    cases i with
    | zero =>
      cases e
      exact .inr (.inl ⟨rfl, rfl⟩)
    | succ j =>
      rw [List.getElem?_cons_succ] at e
      by_cases hi : j < ds.length
      · rw [List.getElem?_append_left (by rw [List.length_map]; exact hi)] at e
        rw [List.getElem?_map, List.getElem?_eq_getElem hi] at e
        cases e
        refine .inr (.inr ⟨j, ds[j], rfl, rfl, ?_, hi⟩)
        rw [List.getElem?_map, List.getElem?_eq_getElem hi]
        rfl
      · rw [List.getElem?_append_right (by rw [List.length_map]; omega)] at e
        obtain ⟨h1, h2⟩ := List.getElem?_eq_some_iff.mp e
        rw [List.getElem_replicate] at h2
        exact .inl h2.symm
  refine ⟨l, Le.refl _, ?_, fun i s e => ?_, fun i j d1 d2 q ne e1 e2 h1 h2 => ?_, tb, cmi_none fun i c e => ?_⟩
  · unfold L2.start envB
    simp only [List.length_append, List.length_map, List.length_cons, List.length_replicate, hl]
    omega
  · rcases shape i s e with q | ⟨q1, q2⟩ | ⟨j, d, q0, q, e1, hi⟩
    · subst q
      trivial
    · subst q1 q2
      exact ⟨x, rfl, hb⟩
    · subst q q0
      obtain ⟨v, h1, h2⟩ := repAll_get h e1
      refine ⟨v, ?_, h2⟩
      unfold L2.start
      rw [List.map_cons, List.cons_append, List.getElem?_cons_succ, List.getElem?_append_left (by rw [List.length_map]; omega)]
      exact h1
  · rcases shape i _ e1 with z | ⟨_, z⟩ | ⟨_, d, _, z, _, _⟩
    · cases z
    · cases z
    · cases z
  · rcases shape i _ e with z | ⟨_, z⟩ | ⟨_, d, _, z, _, _⟩ <;> cases z
theorem mkDefB {cls : String → Value} {P : Program} {w : World} {K : PySem.W.Frag} {mg : Str → Option Value} {base : Heap} {m qual : Str} {st : Stmt} {N ps : List Str} {k : Nat} {g : Env → SR} (R0 : RawB K m qual st) (S : FnScope N ps (defScope st))
    (hb : ∀ (kV doc pm : Value) (an : Option Addr) (cdv ct : Value) (us : List Value), us.length = ps.length → bindArgs (PySem.W.fnOf m qual (defArgs st) (defBody st) (defScope st) .none kV doc pm an cdv ct) ⟨us, []⟩ = pure (ps.zip us))
    (body : ∀ (X : Cx) (E : XK) (f : Addr) (cdv : Value) (A : Around) (outer : List PySem.Env) (s : Shared) (H : Hp), X = cxOf (L2.CX P w) P w K mg base N qual (defScope st) f cdv A outer s H E → Room k X.A → Takes X (fun c d _ H => E c d H) → PassesOwn (model X.prog X.w) X.A X.env X.xe →
      DSs cls X (fun c d _ H => E c d H) (defBody st) g) : DefB cls P w K mg base m (k + 1) (fnB ps.length N.length g) := by
  obtain ⟨f, fd, F, hm⟩ := R0.ex
  refine ⟨f, fd, ps, hm, F.binds hb, F.okX S (fun vs H Q E h => ?_) (fun cdv A outer s H vs Q E hr h => ?_)⟩
  · obtain ⟨B, x, b, us, ds, rfl, l, hb, r, tb, h⟩ := h
    rw [List.length_cons, r.length]
    unfold fnB at h
    by_cases hl : ds.length + 1 = ps.length
    · exact hl
    · rw [if_neg hl] at h
      exact h.elim
  · obtain ⟨B, x, b, us, ds, rfl, l, hb, r, tb, h⟩ := h
    have tk : Takes (cxOf (L2.CX P w) P w K mg base N qual (defScope st) f cdv A outer s H E) (fun c d _ H => E c d H) := takes_of rfl rfl rfl rfl
    have hp : PassesOwn (model (cxOf (L2.CX P w) P w K mg base N qual (defScope st) f cdv A outer s H E).prog (cxOf (L2.CX P w) P w K mg base N qual (defScope st) f cdv A outer s H E).w) (cxOf (L2.CX P w) P w K mg base N qual (defScope st) f cdv A outer s H E).A (cxOf (L2.CX P w) P w K mg base N qual (defScope st) f cdv A outer s H E).env (cxOf (L2.CX P w) P w K mg base N qual (defScope st) f cdv A outer s H E).xe := passes_of rfl
    obtain ⟨t, pt, hd⟩ := (body _ E f cdv A outer s H rfl hr tk hp).run
    refine ⟨t, pt, hd H B H _ (envB N.length b ds) _ (ok_startB l hb r tb) ?_⟩
    unfold fnB at h
    by_cases hl : ds.length + 1 = ps.length
    · rw [if_pos hl] at h
      cases q : g (envB N.length b ds) with
      | nx r' =>
        rw [q] at h
        exact fun B' H' σ' gr k' => h B' H' _ ⟨gr, k'.bh, k'.fh⟩ .non
      | rt d =>
        rw [q] at h
        exact fun B' H' v gr l1 l2 hv => h B' H' v ⟨gr, l1, l2⟩ hv
      | er c r' =>
        rw [q] at h
        exact fun B' H' σ' gr k' => h H' k'.fh
      | bk r' =>
        rw [q] at h
        exact h.elim
      | ct r' =>
        rw [q] at h
        exact h.elim
      | no =>
        rw [q] at h
        exact h.elim
    · rw [if_neg hl] at h
      exact h.elim
end Mi

namespace Mi
open PySem PySem.Spec PyProof.Rows L2
def spI (K : PySem.W.Frag) (cls : String → Value) (m : List Da → R Da) : Sp := fun vs H Q E => ∃ B x dx wv sv W S, vs = [.ref x, wv, sv] ∧ Le B H ∧ B x = none ∧ H x = some (.ins (bC K) dx []) ∧ Rep K B wv W ∧ Rep K B sv S ∧ TbAll K H ∧ match m [W, S] with
  | .ok _ => ∀ B' H', Gr (delH H x) B B' → Le B' H' → Le (delH H x) H' → BdF K B' x ⟨W, [S], [], []⟩ → Q .non H'
  | .er c => ∀ H', Le H H' → E (cls c) none H'
  | .no => False
structure DefI (cls : String → Value) (P : Program) (w : World) (K : PySem.W.Frag) (mg : Str → Option Value) (base : Heap) (k : Nat) (m : List Da → R Da) : Prop where
  ex : ∃ f fd ps, mg "Board" = some (.ref (bC K)) ∧ Mk K (bC K) f ∧ Binds K fd ps [] ∧ FnOk P w K mg base (L2.CX P w) k f fd ps (spI K cls m)
structure RawI (K : PySem.W.Frag) (mg : Str → Option Value) (st : Stmt) : Prop where
  ex : ∃ f fd, Fun K "__init__" "Board.__init__" st f fd ∧ Mk K (bC K) f ∧ mg "Board" = some (.ref (bC K))
theorem ok_startI {K : PySem.W.Frag} {B H : Hp} {x : Addr} {wv sv : V} {W S : Da} (l : Le B H) (h1 : Rep K B wv W) (h2 : Rep K B sv S) (tb : TbAll K H) : Ok K H B H [some (.ref x), some wv, some sv] [.pn (.ref x), .fz W, .fz S] := by
  refine ⟨l, Le.refl _, rfl, fun i s e => ?_, fun i j d1 d2 q ne e1 e2 _ _ => ?_, tb, cmi_none fun i c e => ?_⟩
  · match i, e with
    | 0, e => cases e; exact rfl
    | 1, e => cases e; exact ⟨wv, rfl, h1⟩
    | 2, e => cases e; exact ⟨sv, rfl, h2⟩
    | i + 3, e => cases e
  · match i, e1 with
    | 0, e => cases e
    | 1, e => cases e
    | 2, e => cases e
    | i + 3, e => cases e
  · match i, e with
    | 0, e => cases e
    | 1, e => cases e
    | 2, e => cases e
    | i + 3, e => cases e
abbrev iN : List Str := ["self", "world", "stand"]
section
variable {cls : String → Value} {X : Cx} {W : WX}
theorem run_makeS {CX : CXT} {k : Nat} {C f : Addr} {fd : FuncData} {ps : List Str} {sp : Sp} {E : XK} {pins : List (Addr × Obj)} {σ : L2.St} {H : Hp} {s : Shared} {Q : VK} {us : List Value} {vs : List V} (M : Mk X.K C f) (F : FnOk X.prog X.w X.K X.mg X.base CX k f fd ps sp) (hr : Room (k + 1) X.A) (hb : Binds X.K fd ps [])
    (hx : PassesAt CX X σ E) (I : Inv X pins σ H s) (r : Vals vs us)
    (h : ∀ x dx, H x = none → H dx = none → dx ≠ x → sp (.ref x :: vs) (upd (upd H dx (.own x)) x (.ins C dx [])) (fun v H2 => v = .non ∧ Q (.ref x) H2) E) :
    wpAny (model X.prog X.w) X.A (call (.ref C) us) (EP X pins σ Q) X.xe s := by
  have hq := h (s.heap.objs.size + 1) s.heap.objs.size (I.hok.fresh (Nat.le_succ _)) (I.hok.fresh (Nat.le_refl _)) (Nat.ne_of_lt (Nat.lt_succ_self _))
  have I2 := Inv.made (C := C) I
  have r2 : Vals (V.ref (s.heap.objs.size + 1) :: vs) (Value.ref (s.heap.objs.size + 1) :: us) := .cons rfl r
  have hl : (Value.ref (s.heap.objs.size + 1) :: us ++ []).length = ps.length := by
    rw [List.append_nil]
    have e := r2.length
    rw [F.len _ _ _ _ hq] at e
    exact e.symm
  have hb2 := hb _ (Value.ref (s.heap.objs.size + 1) :: us) I2.kIn hl
  rw [List.append_nil] at hb2
  refine wpAny_call (make_map (f := f) I.kIn M.makes M.init (beq_iff_eq.mp M.fn) (codeAny_mono (F.run _ X.stack _ _ ⟨Value.ref (s.heap.objs.size + 1) :: us, []⟩ (Value.ref (s.heap.objs.size + 1) :: us) _ _ E (hr.make C us [])
    (I2.env0.make C us []) hb2 r2 hq) fun r s' hq' => ?_))
  cases r with
  | error e => exact hx pins _ _ e s' I2 hq'
  | ok fl =>
    cases fl with
    | ret u =>
      obtain ⟨v, H', I3, rv, ev, q3⟩ := I2.after hq'
      subst ev
      exact ⟨rv, ⟨V.ref (s.heap.objs.size + 1), H', I3, rfl, q3⟩⟩
    | next => exact False.elim hq'
    | brk => exact False.elim hq'
    | cont => exact False.elim hq'
abbrev WfBd (K : PySem.W.Frag) (Q : VK) : BS → Hp → Hp → Prop := fun b B' H' => ∀ x, BdF K B' x b → Q (.ref x) H'
structure DBd (cls : String → Value) (X : Cx) (W : WX) (e : Expr) (f : Env → R BS) : Prop where
  run : ∃ t, PE X e t ∧ ∀ (F B H : Hp) (σ : L2.St) (r : Env) (Q : VK), Ok X.K F B H σ r → Pw cls B H σ W (WfBd X.K Q) (f r) → t σ H Q
theorem pe_varA (i : Nat) {x : Str} {pos : Pos} (hN : X.N[i]? = some x := by rfl) (hv : Vis X.env.scope x := by first | exact Or.inl rfl | exact Or.inr (Or.inl rfl) | exact Or.inr (Or.inr rfl)) (hd : (x == ("__debug__" : Str)) = false := by decide) (hcd : (x == ("__classdict__" : Str)) = false := by decide) : PE X (.Name x pos) (tVar i) := pe_var hN hv hd hcd
theorem ps_fldA {o value : Expr} {f : Str} {pos pos' : Pos} {ta tv : TE} (ha : PE X o ta) (hv : PE X value tv) (hs : swapsWith value (some (.Attribute o f pos')) pos.line X.env = pure false := by rfl) : PS X (.Assign [.Attribute o f pos'] value pos) (sFld X.K ta tv f) := ps_fld ha hv hs
end
theorem rawB_of {K : PySem.W.Frag} {m qual : Str} {st : Stmt} {f : Addr} {fd : FuncData} (F : FunD K m qual (defArgs st) (defBody st) (defScope st) [] [] f fd) (h : Meth K (bC K) m f) : RawB K m qual st := by
  obtain ⟨oc, od, dV, kV, doc, pm, an, cdv, ct, osl, e, lk, hcd, hD, hK⟩ := F.ex
  rcases hD with ⟨_, rfl⟩ | ⟨q, _⟩
  · exact ⟨f, fd, ⟨⟨oc, od, kV, doc, pm, an, cdv, ct, osl, e, lk, hcd⟩, F.kp⟩, h⟩
  · exact absurd rfl q
theorem rawI_of {K : PySem.W.Frag} {mg : Str → Option Value} {st : Stmt} {f : Addr} {fd : FuncData} (F : FunD K "__init__" "Board.__init__" (defArgs st) (defBody st) (defScope st) [] [] f fd) (h : Mk K (bC K) f) (h2 : mg "Board" = some (.ref (bC K))) : RawI K mg st := by
  obtain ⟨oc, od, dV, kV, doc, pm, an, cdv, ct, osl, e, lk, hcd, hD, hK⟩ := F.ex
  rcases hD with ⟨_, rfl⟩ | ⟨q, _⟩
  · exact ⟨f, fd, ⟨⟨oc, od, kV, doc, pm, an, cdv, ct, osl, e, lk, hcd⟩, F.kp⟩, h, h2⟩
  · exact absurd rfl q
end Mi

namespace Mi
open PySem PySem.Spec PyProof.Rows L2
def noLs : List Da → Bool
  | [] => true
  | d :: ds => noL d && noLs ds
where noL : Da → Bool
  | .list _ => false
  | .dict _ => false
  | .tuple ds => noLs ds
  | _ => true
abbrev noL : Da → Bool := noLs.noL
theorem NoLK.lst {K : PySem.W.Frag} (n : NoLK K) {H : Hp} {a : Addr} {xs : List V} (h : SqL K H a xs) : Rd H a (.lst xs) := by
  rcases h with h | ⟨o, its, m, e1, e2, _⟩
  · exact h
  · exact absurd e2 (n a o e1)
theorem rd_lst {H : Hp} {a : Addr} {xs ys : List V} (h1 : Rd H a (.lst xs)) (h2 : Rd H a (.lst ys)) : xs = ys := by
  rcases h1 with h1 | ⟨o, h1⟩ <;> rcases h2 with h2 | ⟨o2, h2⟩ <;> rw [h1] at h2 <;> cases h2 <;> rfl
mutual
theorem Rep.uq {K : PySem.W.Frag} {H : Hp} (n : NoLK K) : ∀ {v : V} {d d' : Da}, Rep K H v d → Rep K H v d' → d = d'
  | _, _, _, .non, h => by cases h; rfl
  | _, _, _, .bl b, h => by cases h; rfl
  | _, _, _, .int b, h => by cases h; rfl
  | _, _, _, .str b, h => by cases h; rfl
  | _, _, _, .lst h1 r1, h => by
    cases h with
    | lst h2 r2 =>
      have e := rd_lst (n.lst h1) (n.lst h2)
      subst e
      rw [RepAll.uq n r1 r2]
    | tup h2 r2 =>
      obtain ⟨o, h2, _⟩ := h2
      rcases n.lst h1 with h1 | ⟨o1, h1⟩ <;> rw [h1] at h2 <;> cases h2
    | dct h2 r2 => rcases n.lst h1 with h1 | ⟨o1, h1⟩ <;> rw [h1] at h2 <;> cases h2
  | _, _, _, .tup h1 r1, h => by
    obtain ⟨o, h1, _⟩ := h1
    cases h with
    | lst h2 r2 => rcases n.lst h2 with h2 | ⟨o1, h2⟩ <;> rw [h2] at h1 <;> cases h1
    | tup h2 r2 =>
      obtain ⟨o2, h2, _⟩ := h2
      rw [h1] at h2
      cases h2
      rw [RepAll.uq n r1 r2]
    | dct h2 r2 => rw [h2] at h1; cases h1
  | _, _, _, .dct h1 r1, h => by
    cases h with
    | lst h2 r2 => rcases n.lst h2 with h2 | ⟨o1, h2⟩ <;> rw [h2] at h1 <;> cases h1
    | tup h2 r2 =>
      obtain ⟨o2, h2, _⟩ := h2
      rw [h1] at h2
      cases h2
    | dct h2 r2 =>
      rw [h1] at h2
      cases h2
      rw [RepKV.uq n r1 r2]
theorem RepAll.uq {K : PySem.W.Frag} {H : Hp} (n : NoLK K) : ∀ {v : List V} {d d' : List Da}, RepAll K H v d → RepAll K H v d' → d = d'
  | _, _, _, .nil, h => by cases h; rfl
  | _, _, _, .cons h1 r1, h => by
    cases h with
    | cons h2 r2 => rw [Rep.uq n h1 h2, RepAll.uq n r1 r2]
theorem RepKV.uq {K : PySem.W.Frag} {H : Hp} (n : NoLK K) : ∀ {v : List (Key × V)} {d d' : List (Da × Da)}, RepKV K H v d → RepKV K H v d' → d = d'
  | _, _, _, .nil, h => by cases h; rfl
  | _, _, _, .cons h1 r1, h => by
    cases h with
    | cons h2 r2 => rw [Rep.uq n h1 h2, RepKV.uq n r1 r2]
end
section
variable {K : PySem.W.Frag} {B B2 : Hp} {p : Addr} {es : List Da}
mutual
theorem Rep.del (n : NoLK K) (hp : Rep K B (.ref p) (.list es)) (hb : ∀ a o, a ≠ p → PlainO o → B a = some o → B2 a = some o) : ∀ {v : V} {d : Da}, Rep K B v d → sizeOf d < sizeOf (PyData.list es) → Rep K B2 v d
  | _, _, .non, _ => .non
  | _, _, .bl b, _ => .bl b
  | _, _, .int b, _ => .int b
  | _, _, .str b, _ => .str b
  | _, _, .lst (a := a) (ds := ds) h r, hs => by
    by_cases q : a = p
    · subst q
      have := Rep.uq n (.lst h r) hp
      rw [this] at hs
      exact absurd hs (Nat.lt_irrefl _)
    · refine .lst (.inl ?_) (RepAll.del n hp hb r (by simp only [PyData.list.sizeOf_spec] at hs ⊢; omega))
      rcases n.lst h with h | ⟨o, h⟩
      · exact .inl (hb _ _ q True.intro h)
      · exact .inr ⟨o, hb _ _ q True.intro h⟩
  | _, _, .tup (a := a) h r, hs => by
    obtain ⟨o, h, hd⟩ := h
    have q : a ≠ p := fun z => by
      subst z
      cases hp with
      | lst h2 _ => rcases n.lst h2 with h2 | ⟨o1, h2⟩ <;> rw [h2] at h <;> cases h
    exact .tup ⟨o, hb _ _ q True.intro h, hd⟩ (RepAll.del n hp hb r (by simp only [PyData.tuple.sizeOf_spec] at hs ⊢; omega))
  | _, _, .dct (a := a) h r, hs => by
    have q : a ≠ p := fun z => by
      subst z
      cases hp with
      | lst h2 _ => rcases n.lst h2 with h2 | ⟨o1, h2⟩ <;> rw [h2] at h <;> cases h
    exact .dct (hb _ _ q True.intro h) (RepKV.del n hp hb r (by simp only [PyData.dict.sizeOf_spec] at hs ⊢; omega))
theorem RepAll.del (n : NoLK K) (hp : Rep K B (.ref p) (.list es)) (hb : ∀ a o, a ≠ p → PlainO o → B a = some o → B2 a = some o) : ∀ {v : List V} {d : List Da}, RepAll K B v d → sizeOf d < sizeOf (PyData.list es) → RepAll K B2 v d
  | _, _, .nil, _ => .nil
  | _, _, .cons h r, hs => .cons (Rep.del n hp hb h (by simp only [List.cons.sizeOf_spec] at hs; omega)) (RepAll.del n hp hb r (by simp only [List.cons.sizeOf_spec] at hs; omega))
theorem RepKV.del (n : NoLK K) (hp : Rep K B (.ref p) (.list es)) (hb : ∀ a o, a ≠ p → PlainO o → B a = some o → B2 a = some o) : ∀ {v : List (Key × V)} {d : List (Da × Da)}, RepKV K B v d → sizeOf d < sizeOf (PyData.list es) → RepKV K B2 v d
  | _, _, .nil, _ => .nil
  | _, _, .cons h r, hs => .cons (Rep.del n hp hb h (by simp only [List.cons.sizeOf_spec, Prod.mk.sizeOf_spec] at hs; omega)) (RepKV.del n hp hb r (by simp only [List.cons.sizeOf_spec] at hs; omega))
end
end
def tupH (B : Hp) : Hp := fun a => match B a with
  | some (.frz o (.tup xs)) => some (.frz o (.tup xs))
  | _ => none
theorem tupH_some {B : Hp} {a : Addr} {u : HO} (h : tupH B a = some u) : B a = some u ∧ ∃ o xs, u = .frz o (.tup xs) := by
  unfold tupH at h
  split at h
  · rename_i o xs e
    cases h
    exact ⟨e, o, xs, rfl⟩
  · cases h
theorem tupH_at {B : Hp} {a : Addr} {o : Obj} {xs : List V} (h : B a = some (.frz o (.tup xs))) : tupH B a = some (.frz o (.tup xs)) := by
  unfold tupH
  rw [h]
mutual
theorem Rep.tups {K : PySem.W.Frag} {B : Hp} : ∀ {v : V} {d : Da}, Rep K B v d → noL d = true → Rep K (tupH B) v d
  | _, _, .non, _ => .non
  | _, _, .bl b, _ => .bl b
  | _, _, .int b, _ => .int b
  | _, _, .str b, _ => .str b
  | _, _, .lst h r, e => by cases e
  | _, _, .tup h r, e => by
    obtain ⟨o, h, hd⟩ := h
    exact .tup ⟨o, tupH_at h, hd⟩ (RepAll.tups r e)
  | _, _, .dct h r, e => by cases e
theorem RepAll.tups {K : PySem.W.Frag} {B : Hp} : ∀ {v : List V} {d : List Da}, RepAll K B v d → noLs d = true → RepAll K (tupH B) v d
  | _, _, .nil, _ => .nil
  | _, _, .cons h r, e => by
    have e : (noL _ && noLs _) = true := e
    rw [Bool.and_eq_true] at e
    exact .cons (Rep.tups h e.1) (RepAll.tups r e.2)
end
section
variable {cls : String → Value} {X : Cx} {W : WX}
end
end Mi

namespace Mi
open PySem PySem.Spec PyProof.Rows L2
section
variable {cls : String → Value} {X : Cx} {W : WX}
abbrev WfL (K : PySem.W.Frag) (H : Hp) (Q : List V → Hp → Prop) : List (List Da) → Hp → Hp → Prop := fun ls B' H' => ∀ ps : List Addr, LsO K B' H' ps ls → (∀ p ∈ ps, H p = none ∧ B' p = none) → ps.Nodup → Q (ps.map V.ref) H'
structure DFs (cls : String → Value) (X : Cx) (W : WX) (es : List Expr) (f : Env → R (List (List Da))) : Prop where
  run : ∃ t, PA X es t ∧ ∀ (F B H : Hp) (σ : L2.St) (r : Env) (Q : List V → Hp → Prop), Ok X.K F B H σ r → Pw cls B H σ W (WfL X.K H Q) (f r) → t σ H Q
def small1 (ls : List (List Da)) : Bool := ls.all fun ds => decide (ds.length < 100000)
theorem LsO.at {K : PySem.W.Frag} {B H : Hp} : ∀ {qs : List Addr} {ls : List (List Da)} {q : Addr}, LsO K B H qs ls → small1 ls = true → q ∈ qs → ∃ xs, H q = some (.lst xs) ∧ xs.length < 100000
  | _, _, _, .nil, _, h => by cases h
  | _, _, q, .cons h r t, s, hq => by
    have s : (decide (_ < 100000) && small1 _) = true := s
    rw [Bool.and_eq_true] at s
    rcases List.mem_cons.mp hq with rfl | hq
    · exact ⟨_, h, by rw [r.length]; exact of_decide_eq_true s.1⟩
    · exact t.at s.2 hq
structure Loose (F B H : Hp) (σ : L2.St) (r : Env) (p : Addr) : Prop where
  f : F p = none
  b : B p = none
  o : ∀ j, ¬ Own1 σ r j p
  c : ∀ j, ¬ FtC H σ r j p
theorem LsO.len {K : PySem.W.Frag} {B H : Hp} : ∀ {qs : List Addr} {ls : List (List Da)}, LsO K B H qs ls → qs.length = ls.length
  | _, _, .nil => rfl
  | _, _, .cons _ _ t => by rw [List.length_cons, List.length_cons, t.len]
end
end Mi

namespace Mi
open PySem PySem.Spec PyProof.Rows L2
def delS (H : Hp) (S : List Addr) : Hp := fun a => if a ∈ S then none else H a
theorem delS_in {H : Hp} {S : List Addr} {a : Addr} (h : a ∈ S) : delS H S a = none := if_pos h
theorem delS_out {H : Hp} {S : List Addr} {a : Addr} (h : a ∉ S) : delS H S a = H a := if_neg h
theorem delS_some {H : Hp} {S : List Addr} {a : Addr} {o : HO} (h : delS H S a = some o) : a ∉ S ∧ H a = some o := by
  by_cases c : a ∈ S
  · rw [delS_in c] at h
    cases h
  · rw [delS_out c] at h
    exact ⟨c, h⟩
theorem delS_none {H : Hp} {S : List Addr} {a : Addr} (h : delS H S a = none) : a ∈ S ∨ H a = none := by
  by_cases c : a ∈ S
  · exact .inl c
  · rw [delS_out c] at h
    exact .inr h
theorem delS_le (H : Hp) (S : List Addr) : Le (delS H S) H := Le.ext fun _ _ h => (delS_some h).2
theorem Le.delS {F H : Hp} {S : List Addr} (e : Le F H) (h : ∀ a ∈ S, F a = none ∧ ∀ c q, H a ≠ some (LamX.CodeO c q)) : Le F (delS H S) := fun a u ha => by
  have q := e a u ha
  have np : a ∉ S := fun z => by rw [(h a z).1] at ha; cases ha
  cases u with
  | tbl ps =>
    obtain ⟨⟨ps', q1⟩, q2⟩ := q
    refine ⟨⟨ps', by rw [delS_out np]; exact q1⟩, fun t => ?_⟩
    obtain ⟨ps2, t1, t2, t3⟩ := q2 t
    refine ⟨ps2, by rw [delS_out np]; exact t1, t2, fun pos cv hcv => ?_⟩
    obtain ⟨c, e1, e2⟩ := t3 pos cv hcv
    exact ⟨c, e1, by rw [delS_out (fun z => (h c z).2 c qW e2)]; exact e2⟩
  | _ =>
    show Mi.delS H S a = _
    rw [delS_out np]
    exact q
theorem CmO.weak {K : PySem.W.Frag} {F F' B H : Hp} {p : Addr} {c : Cm} (h : CmO K F' B H p c) (w : ∀ a, F' a = none → F a = none) : CmO K F B H p c := ⟨h.ex, fun a ha => ⟨w a (h.fb a ha).1, (h.fb a ha).2⟩⟩
section
variable {K : PySem.W.Frag} {F B H B' H' : Hp} {σ : L2.St} {r : Env} {i : Nat} {p : Addr} {c c' : Cm}
theorem CmO.nc (h : CmO K F B H p c) {a : Addr} (ha : a ∈ ftOf H c.k p) (c' : Addr) (q : Str) : H a ≠ some (LamX.CodeO c' q) := by
  obtain ⟨o, h1, h2⟩ := h.there ha
  exact nc_plain h1 h2 c' q
theorem Ok.cmAt (k : Ok K F B H σ r) (e : r[i]? = some (.cm c)) (hp : σ[i]? = some (some (.ref p))) : CmO K F B H p c := by
  obtain ⟨p', h1, h2⟩ := k.sl i _ e
  rw [hp] at h1
  cases h1
  exact h2
theorem Ok.cmLe (k : Ok K F B H σ r) (e : r[i]? = some (.cm c)) (hp : σ[i]? = some (some (.ref p))) : Le F (delS H (ftOf H c.k p)) := by
  have h2 := k.cmAt e hp
  exact k.fh.delS fun a ha => ⟨(h2.fb a ha).1, h2.nc ha⟩
theorem Ok.cmx (k : Ok K F B H σ r) (e : r[i]? = some (.cm c)) (hp : σ[i]? = some (some (.ref p))) (g : Gr (delS H (ftOf H c.k p)) B B') (b : Le B' H') (l : Le (delS H (ftOf H c.k p)) H') (o : CmO K (delS H (ftOf H c.k p)) B' H' p c') :
    Ok K F B' H' σ (r.set i (.cm c')) ∧ Gr F B B' := by
  have lF := k.cmLe e hp
  have il : i < r.length := (List.getElem?_eq_some_iff.mp e).1
  -- what is not of the compound stays
  have stay : ∀ a u, a ∉ ftOf H c.k p → H a = some u → PlainO u → H' a = H a ∧ B' a = B a := fun a u na ha pu => by
    have hd : delS H (ftOf H c.k p) a = some u := by rw [delS_out na]; exact ha
    exact ⟨(l.at hd pu).trans ha.symm, g.2.1 a u hd⟩
  have ftj : ∀ j a, j ≠ i → FtC H σ r j a → H' a = H a ∧ B' a = B a := fun j a nj f => by
    obtain ⟨⟨u, hu, pu⟩, _⟩ := k.ftc f
    exact stay a u (fun z => (k.ci j i a nj f).1 ⟨c, p, e, hp, z⟩) hu pu
  have toj : ∀ j a, j ≠ i → FtC H' σ (r.set i (.cm c')) j a → FtC H σ r j a := fun j a nj f => f.to (fun d z => by
    rw [List.getElem?_set_ne (Ne.symm nj)] at z
    exact z) (fun _ _ => rfl) fun q g => (ftj j q nj g).1
  have ow : ∀ j a, Own1 σ (r.set i (.cm c')) j a → j ≠ i ∧ Own1 σ r j a := fun j a ⟨d, e1, e2⟩ => by
    rcases set_is e1 with ⟨_, z⟩ | ⟨z, e1⟩
    · cases z
    · exact ⟨Ne.symm z, d, e1, e2⟩
  have self : ∀ a, FtC H' σ (r.set i (.cm c')) i a → a ∈ ftOf H c.k p ∨ H a = none := fun a f => by
    obtain ⟨c2, p2, e1, e2, ha⟩ := f
    rw [List.getElem?_set_self il] at e1
    cases e1
    rw [hp] at e2
    cases e2
    exact delS_none (o.fb a ha).1
  have apart : ∀ j a, j ≠ i → FtC H' σ (r.set i (.cm c')) i a → ¬ FtC H σ r j a ∧ ¬ Own1 σ r j a := fun j a nj f => by
    rcases self a f with z | z
    · exact k.ci i j a (Ne.symm nj) ⟨c, p, e, hp, z⟩
    · refine ⟨fun g => ?_, fun g => ?_⟩
      · obtain ⟨⟨u, hu, _⟩, _⟩ := k.ftc g
        rw [z] at hu
        cases hu
      · obtain ⟨d, e1, e2⟩ := g
        exact owned_in k e1 e2 z
  refine ⟨⟨b, lF.trans l, by rw [List.length_set]; exact k.len, fun j s ej => ?_, fun j m d1 d2 q ne e1 e2 h1 h2 => ?_, k.tb, fun j m a ne f => ?_⟩, g.weak lF⟩
  · by_cases hj : i = j
    · subst hj
      rw [List.getElem?_set_self il] at ej
      cases ej
      exact ⟨p, hp, o.weak fun a ha => lF.back ha⟩
    · rw [List.getElem?_set_ne hj] at ej
      have q := k.sl j s ej
      cases s with
      | un => trivial
      | pn v => exact q
      | bd b => obtain ⟨v, a, b⟩ := q; exact ⟨v, a, b.mono g.1⟩
      | fz d => obtain ⟨v, a, b⟩ := q; exact ⟨v, a, b.mono g.1⟩
      | cm c2 =>
        obtain ⟨v, a, b⟩ := q
        exact ⟨v, a, b.mv g.1 fun x hx => ftj j x (Ne.symm hj) ⟨c2, v, ej, a, hx⟩⟩
      | ow d2 =>
        obtain ⟨v, a, c1, c2, c3⟩ := q
        obtain ⟨u, hu, pu⟩ := c3.plain
        obtain ⟨s1, s2⟩ := stay v u (fun z => (k.ci i j v hj ⟨c, p, e, hp, z⟩).2 ⟨d2, ej, a⟩) hu pu
        exact ⟨v, a, c1, by rw [s2]; exact c2, (c3.at s1).mono g.1⟩
  · obtain ⟨n1, y1, e1, _⟩ := ow j q ⟨d1, e1, h1⟩
    obtain ⟨n2, y2, e2, _⟩ := ow m q ⟨d2, e2, h2⟩
    exact k.inj j m y1 y2 q ne e1 e2 h1 h2
  · by_cases hj : j = i
    · subst hj
      refine ⟨fun f2 => (apart m a (Ne.symm ne) f).1 (toj m a (Ne.symm ne) f2), fun o2 => (apart m a (Ne.symm ne) f).2 (ow m a o2).2⟩
    · have f1 := toj j a hj f
      refine ⟨fun f2 => ?_, fun o2 => (k.ci j m a ne f1).2 (ow m a o2).2⟩
      by_cases hm : m = i
      · subst hm
        exact (apart j a hj f2).1 f1
      · exact (k.ci j m a ne f1).1 (toj m a hm f2)
theorem LsO.get : ∀ {qs : List Addr} {ls : List (List Da)} {j : Nat} {ds : List Da}, LsO K B H qs ls → ls[j]? = some ds → ∃ q xs, qs[j]? = some q ∧ H q = some (.lst xs) ∧ RepAll K B xs ds
  | _, _, j, _, .nil, h => by simp at h
  | _, _, 0, _, .cons (q := q) (xs := xs) h r t, e => by
    simp at e
    subst e
    exact ⟨q, xs, rfl, h, r⟩
  | _, _, j + 1, _, .cons h r t, e => by
    obtain ⟨q, xs, h1, h2⟩ := t.get (j := j) (by simpa using e)
    exact ⟨q, xs, by simpa using h1, h2⟩
theorem LsO.put {ys : List V} {ds : List Da} (hy : RepAll K B ys ds) : ∀ {qs : List Addr} {ls : List (List Da)} {j : Nat} {q : Addr}, LsO K B H qs ls → qs.Nodup → qs[j]? = some q → LsO K B (upd H q (.lst ys)) qs (ls.set j ds)
  | _, _, j, _, .nil, _, h => by simp at h
  | _, _, 0, q, .cons h r t, n, e => by
    simp at e
    subst e
    obtain ⟨n1, n2⟩ := List.nodup_cons.mp n
    exact .cons upd_same hy (t.mono (Le.refl _) fun a ha => upd_ne fun z => by subst z; exact n1 ha)
  | _, _, j + 1, q, .cons h r t, n, e => by
    obtain ⟨n1, n2⟩ := List.nodup_cons.mp n
    rw [List.getElem?_cons_succ] at e
    exact .cons (by rw [upd_ne fun z => by subst z; exact n1 (List.mem_of_getElem? e)]; exact h) r (t.put hy n2 e)
theorem Ok.cmput {o : HO} {qs : List Addr} {j : Nat} {q : Addr} {ys : List V} {ds : List Da} (k : Ok K F B H σ r) (e : r[i]? = some (.cm c)) (hp : σ[i]? = some (some (.ref p))) (ho : H p = some o) (hd : Hd K B c.k c.w qs o) (lo : LsO K B H qs c.ls) (nd : (p :: qs).Nodup) (hj : qs[j]? = some q) (hy : RepAll K B ys ds) :
    Ok K F B (upd H q (.lst ys)) σ (r.set i (.cm ⟨c.k, c.w, c.ls.set j ds⟩)) := by
  have ef := ft_at ho hd
  have hq : q ∈ qs := List.mem_of_getElem? hj
  obtain ⟨n1, n2⟩ := List.nodup_cons.mp nd
  have nq : p ≠ q := fun z => by subst z; exact n1 hq
  obtain ⟨xs, hx⟩ := lo.there q hq
  have cm := k.cmAt e hp
  have qf : q ∈ ftOf H c.k p := by rw [ef]; exact List.mem_cons_of_mem _ hq
  have ho' : upd H q (.lst ys) p = some o := by rw [upd_ne nq]; exact ho
  refine (k.cmx e hp (c' := ⟨c.k, c.w, c.ls.set j ds⟩) (Gr.refl _ _) (k.bh.put (cm.fb q qf).2 (nc_plain hx)) ((delS_le _ _).put (delS_in qf) (nc_plain hx)) ⟨⟨o, qs, ho', hd, lo.put hy n2 hj, nd⟩, fun a ha => ?_⟩).1
  rw [ft_at ho' hd, ← ef] at ha
  exact ⟨delS_in ha, (cm.fb a ha).2⟩
theorem Ok.cmnew {dx q1 q2 q3 q : Addr} {wv : V} {w : Da} {l1 l2 l3 : List Da} (k : Ok K F B H σ r) (e : r[i]? = some (.cm ⟨.bo, w, [l1, l2, l3]⟩)) (hp : σ[i]? = some (some (.ref p))) (ho : H p = some (.ins (bC K) dx [("world", wv), ("row", .ref q1), ("numbers", .ref q2), ("undone", .ref q3)])) (hw : Rep K B wv w)
    (lo : LsO K B H [q1, q2, q3] [l1, l2, l3]) (nd : [p, q1, q2, q3].Nodup) (hq : H q = none) :
    Ok K F B (upd (upd H q (.lst [])) p (.ins (bC K) dx [("world", wv), ("row", .ref q1), ("numbers", .ref q2), ("undone", .ref q)])) σ (r.set i (.cm ⟨.bo, w, [l1, l2, []]⟩)) := by
  have hd : Hd K B .bo w [q1, q2, q3] (.ins (bC K) dx [("world", wv), ("row", .ref q1), ("numbers", .ref q2), ("undone", .ref q3)]) := .bo hw
  have ef := ft_at ho hd
  have cm := k.cmAt e hp
  have pf : p ∈ ftOf H .bo p := List.mem_cons_self
  cases lo with
  | cons h1 r1 t =>
    cases t with
    | cons h2 r2 t =>
      have np : q ≠ p := fun z => by subst z; rw [hq] at ho; cases ho
      have nq1 : q1 ≠ q := fun z => by subst z; rw [hq] at h1; cases h1
      have nq2 : q2 ≠ q := fun z => by subst z; rw [hq] at h2; cases h2
      have nd' := nd
      simp only [List.nodup_cons, List.mem_cons, List.not_mem_nil, or_false, not_or] at nd'
      obtain ⟨⟨p1, p2, p3⟩, ⟨a1, a2⟩, a3, _⟩ := nd'
      have hp2 : upd H q (.lst []) p = some (.ins (bC K) dx [("world", wv), ("row", .ref q1), ("numbers", .ref q2), ("undone", .ref q3)]) := by rw [upd_ne (Ne.symm np)]; exact ho
      have ho' : upd (upd H q (.lst [])) p (.ins (bC K) dx [("world", wv), ("row", .ref q1), ("numbers", .ref q2), ("undone", .ref q)]) p = some (.ins (bC K) dx [("world", wv), ("row", .ref q1), ("numbers", .ref q2), ("undone", .ref q)]) := upd_same
      have hd' : Hd K B .bo w [q1, q2, q] (.ins (bC K) dx [("world", wv), ("row", .ref q1), ("numbers", .ref q2), ("undone", .ref q)]) := .bo hw
      refine (k.cmx e hp (c' := ⟨.bo, w, [l1, l2, []]⟩) (Gr.refl _ _) ((k.bh.trans (Le.new hq)).put (cm.fb p pf).2 (nc_plain hp2)) (((delS_le _ _).trans (Le.new hq)).put (delS_in pf) (nc_plain hp2)) ⟨⟨_, [q1, q2, q], ho', hd', .cons ?_ r1 (.cons ?_ r2 (.cons ?_ .nil .nil)), ?_⟩, fun a ha => ?_⟩).1
      · rw [upd_ne (Ne.symm p1), upd_ne nq1]; exact h1
      · rw [upd_ne (Ne.symm p2), upd_ne nq2]; exact h2
      · rw [upd_ne np, upd_same]
      · simp only [List.nodup_cons, List.mem_cons, List.not_mem_nil, or_false, not_or, List.nodup_nil, not_false_eq_true, and_true]
        exact ⟨⟨p1, p2, Ne.symm np⟩, ⟨a1, nq1⟩, nq2⟩
      · rw [ft_at ho' hd'] at ha
        simp only [List.mem_cons, List.not_mem_nil, or_false] at ha
        rcases ha with rfl | rfl | rfl | rfl
        · exact ⟨delS_in pf, (cm.fb _ pf).2⟩
        · have z : a ∈ ftOf H .bo p := by rw [ef]; simp
          exact ⟨delS_in z, (cm.fb _ z).2⟩
        · have z : a ∈ ftOf H .bo p := by rw [ef]; simp
          exact ⟨delS_in z, (cm.fb _ z).2⟩
        · exact ⟨(delS_le _ _).back hq, k.bh.back hq⟩
end
def cNm : Nat → Str
  | 0 => "row"
  | 1 => "numbers"
  | _ => "undone"
def eFldW (i : Nat) : Env → R Da := fun r => match r[i]? with
  | some (.cm ⟨.bo, w, _⟩) => .ok w
  | _ => .no
def eFldC (i j : Nat) : Env → R Da := fun r => match r[i]? with
  | some (.cm ⟨.bo, _, [l1, l2, l3]⟩) => match j with
    | 0 => .ok (.list l1)
    | 1 => .ok (.list l2)
    | _ => .ok (.list l3)
  | _ => .no
def eFldS (i j : Nat) : Env → R Da := fun r => match r[i]? with
  | some (.cm ⟨.st, _, [l1, l2, l3]⟩) => match j with
    | 0 => .ok (.list l1)
    | 1 => .ok (.list l2)
    | _ => .ok (.list l3)
  | _ => .no
theorem BCls.atC {K : PySem.W.Frag} (c : BCls K) (j : Nat) : NoAttr K (bC K) (cNm j) := by
  match j with
  | 0 => exact c.at1
  | 1 => exact c.at2
  | j + 2 => exact c.at3
theorem CmO.bo {K : PySem.W.Frag} {F B H : Hp} {p : Addr} {w : Da} {ls : List (List Da)} (h : CmO K F B H p ⟨.bo, w, ls⟩) : ∃ dx q1 q2 q3 wv l1 l2 l3, ls = [l1, l2, l3] ∧ H p = some (.ins (bC K) dx [("world", wv), ("row", .ref q1), ("numbers", .ref q2), ("undone", .ref q3)]) ∧ Rep K B wv w ∧ LsO K B H [q1, q2, q3] [l1, l2, l3] ∧ [p, q1, q2, q3].Nodup := by
  obtain ⟨o, qs, h1, h2, h3, h4⟩ := h.ex
  cases h2 with
  | bo hw =>
    cases h3 with
    | cons a1 b1 t =>
      cases t with
      | cons a2 b2 t =>
        cases t with
        | cons a3 b3 t =>
          cases t
          exact ⟨_, _, _, _, _, _, _, _, rfl, h1, hw, .cons a1 b1 (.cons a2 b2 (.cons a3 b3 .nil)), h4⟩
theorem CmO.st {K : PySem.W.Frag} {F B H : Hp} {p : Addr} {w : Da} {ls : List (List Da)} (h : CmO K F B H p ⟨.st, w, ls⟩) : ∃ q1 q2 q3 l1 l2 l3, ls = [l1, l2, l3] ∧ H p = some (.dK [(.inr "row", .ref q1), (.inr "numbers", .ref q2), (.inr "undone", .ref q3)]) ∧ LsO K B H [q1, q2, q3] [l1, l2, l3] ∧ [p, q1, q2, q3].Nodup := by
  obtain ⟨o, qs, h1, h2, h3, h4⟩ := h.ex
  cases h2 with
  | st =>
    cases h3 with
    | cons a1 b1 t =>
      cases t with
      | cons a2 b2 t =>
        cases t with
        | cons a3 b3 t =>
          cases t
          exact ⟨_, _, _, _, _, _, rfl, h1, .cons a1 b1 (.cons a2 b2 (.cons a3 b3 .nil)), h4⟩
section
variable {cls : String → Value} {X : Cx} {W : WX}
theorem de_fldW (i : Nat) (c : BCls X.K) {x f : Str} {p pos : Pos} (hf : f = "world" := by rfl) (hN : X.N[i]? = some x := by rfl) (hv : Vis X.env.scope x := by first | exact Or.inl rfl | exact Or.inr (Or.inl rfl) | exact Or.inr (Or.inr rfl)) (hd : (x == ("__debug__" : Str)) = false := by decide) (hcd : (x == ("__classdict__" : Str)) = false := by decide)
    (hb : attributeBase (.Name x p) f X.env (eval (.Name x p) X.env) = eval (.Name x p) X.env := by rfl) : DE cls X W (.Attribute (.Name x p) f pos) (eFldW i) := by
  subst hf
  refine ⟨_, pe_fld (pe_var hN hv hd hcd) hb, fun F B H σ r Q k q => ?_⟩
  unfold eFldW at q
  split at q
  · rename_i w ls e0
    obtain ⟨a, h1, h2⟩ := k.sl i _ e0
    obtain ⟨dx, q1, q2, q3, wv, l1, l2, l3, rfl, g1, g2, g3, g4⟩ := h2.bo
    exact ⟨.ref a, h1, a, bC X.K, dx, _, wv, rfl, g1, c.cl, c.at0, rfl, q B H (Stp.refl k.bh) wv g2⟩
  · exact q.elim
theorem own_rr {K : PySem.W.Frag} {B H : Hp} {q : Addr} {xs : List V} {ds : List Da} (h : H q = some (.lst xs)) (r : RepAll K B xs ds) : Rr K B H (.ref q) (.list ds) := .inr (.inl ⟨q, xs, ds, rfl, rfl, h, r⟩)
theorem dr_fldC (i j : Nat) (c : BCls X.K) {x f : Str} {p pos : Pos} (hf : f = cNm j := by rfl) (hN : X.N[i]? = some x := by rfl) (hv : Vis X.env.scope x := by first | exact Or.inl rfl | exact Or.inr (Or.inl rfl) | exact Or.inr (Or.inr rfl)) (hd : (x == ("__debug__" : Str)) = false := by decide) (hcd : (x == ("__classdict__" : Str)) = false := by decide)
    (hb : attributeBase (.Name x p) f X.env (eval (.Name x p) X.env) = eval (.Name x p) X.env := by rfl) : DR cls X W (.Attribute (.Name x p) f pos) (eFldC i j) := by
  subst hf
  refine ⟨_, pe_fld (pe_var hN hv hd hcd) hb, fun F B H σ r Q k q => ?_⟩
  unfold eFldC at q
  split at q
  · rename_i w l1 l2 l3 e0
    obtain ⟨a, h1, h2⟩ := k.sl i _ e0
    obtain ⟨dx, q1, q2, q3, wv, m1, m2, m3, em, g1, g2, g3, g4⟩ := h2.bo
    cases em
    cases g3 with
    | cons a1 b1 t =>
      cases t with
      | cons a2 b2 t =>
        cases t with
        | cons a3 b3 t =>
          match j, q with
          | 0, q => exact ⟨.ref a, h1, a, bC X.K, dx, _, .ref q1, rfl, g1, c.cl, c.at1, rfl, q B H (Stp.refl k.bh) _ (own_rr a1 b1)⟩
          | 1, q => exact ⟨.ref a, h1, a, bC X.K, dx, _, .ref q2, rfl, g1, c.cl, c.at2, rfl, q B H (Stp.refl k.bh) _ (own_rr a2 b2)⟩
          | j + 2, q => exact ⟨.ref a, h1, a, bC X.K, dx, _, .ref q3, rfl, g1, c.cl, c.at3, rfl, q B H (Stp.refl k.bh) _ (own_rr a3 b3)⟩
  · exact q.elim
theorem dr_fldS (i j : Nat) {k0 : Nat} {A0 : Around} (hr : Room k0 A0) {x f : Str} {m : Nat} {p cp pos : Pos} (hA : X.A = A0 := by rfl) (hf : f = cNm j := by rfl) (hN : X.N[i]? = some x := by rfl) (hv : Vis X.env.scope x := by first | exact Or.inl rfl | exact Or.inr (Or.inl rfl) | exact Or.inr (Or.inr rfl)) (hd : (x == ("__debug__" : Str)) = false := by decide) (hcd : (x == ("__classdict__" : Str)) = false := by decide)
    (hs : NoSl (.Constant (.str f) m cp) := by exact fun _ _ => rfl) : DR cls X W (.Subscript (.Name x p) (.Constant (.str f) m cp) pos) (eFldS i j) := by
  subst hf
  have hu : X.A.units + 1 < cLine := by
    have := (roomA (X := X) hr hA).units
    omega
  refine ⟨_, pe_dget hu (pe_var hN hv hd hcd) pe_str hs, fun F B H σ r Q k q => ?_⟩
  unfold eFldS at q
  split at q
  · rename_i w l1 l2 l3 e0
    obtain ⟨a, h1, h2⟩ := k.sl i _ e0
    obtain ⟨q1, q2, q3, m1, m2, m3, em, g1, g3, g4⟩ := h2.st
    cases em
    cases g3 with
    | cons a1 b1 t =>
      cases t with
      | cons a2 b2 t =>
        cases t with
        | cons a3 b3 t =>
          match j, q with
          | 0, q => exact ⟨.ref a, h1, a, .ref q1, rfl, .inl ⟨_, .inr "row", .inl g1, rfl, rfl⟩, q B H (Stp.refl k.bh) _ (own_rr a1 b1)⟩
          | 1, q => exact ⟨.ref a, h1, a, .ref q2, rfl, .inl ⟨_, .inr "numbers", .inl g1, rfl, by rfl⟩, q B H (Stp.refl k.bh) _ (own_rr a2 b2)⟩
          | j + 2, q => exact ⟨.ref a, h1, a, .ref q3, rfl, .inl ⟨_, .inr "undone", .inl g1, rfl, by rfl⟩, q B H (Stp.refl k.bh) _ (own_rr a3 b3)⟩
  · exact q.elim
end
end Mi

namespace Mi
open PySem PySem.Spec PyProof.Rows L2
inductive RX (α : Type) where
  | ok (a : α) (r : Env)
  | er (c : String) (r : Env)
  | no
def RX.bind {α β : Type} (x : RX α) (f : α → Env → RX β) : RX β := match x with
  | .ok a r => f a r
  | .er c r => .er c r
  | .no => .no
def Px {α : Type} (K : PySem.W.Frag) (cls : String → Value) (F B : Hp) (σ : L2.St) (W : WX) (φ : α → Env → Hp → Hp → Prop) : RX α → Prop
  | .ok a r => ∀ B' H', Gr F B B' → Ok K F B' H' σ r → φ a r B' H'
  | .er c r => ∀ B' H', Gr F B B' → Ok K F B' H' σ r → W (cls c) none σ H'
  | .no => False
section
variable {α β : Type} {K : PySem.W.Frag} {cls : String → Value} {F B B' H H' : Hp} {σ : L2.St} {W : WX} {φ ψ : α → Env → Hp → Hp → Prop} {χ : β → Env → Hp → Hp → Prop}
theorem Px.gr {x : RX α} (p : Px K cls F B σ W φ x) (g : Gr F B B') : Px K cls F B' σ W φ x := by
  cases x with
  | ok a r => exact fun B2 H2 g2 k => p B2 H2 (g.trans g2) k
  | er c r => exact fun B2 H2 g2 k => p B2 H2 (g.trans g2) k
  | no => exact p
theorem Px.bind {x : RX α} {g : α → Env → RX β} (p : Px K cls F B σ W χ (x.bind g)) : Px K cls F B σ W (fun a r B' H' => Px K cls F B' σ W χ (g a r)) x := by
  cases x with
  | ok a r => exact fun B2 H2 g2 k => Px.gr p g2
  | er c r => exact p
  | no => exact p
theorem Px.imp {x : RX α} (p : Px K cls F B σ W φ x) (h : ∀ a r B' H', Gr F B B' → Ok K F B' H' σ r → φ a r B' H' → ψ a r B' H') : Px K cls F B σ W ψ x := by
  cases x with
  | ok a r => exact fun B2 H2 g2 k => h a r B2 H2 g2 k (p B2 H2 g2 k)
  | er c r => exact p
  | no => exact p
def xR (x : R α) (r : Env) : RX α := match x with
  | .ok a => .ok a r
  | .er c => .er c r
  | .no => .no
theorem Px.pw {x : R α} {r : Env} (p : Px K cls F B σ W φ (xR x r)) (k : Ok K F B H σ r) : Pw cls B H σ W (fun a B' H' => φ a r B' H') x := by
  cases x with
  | ok a => exact fun B2 H2 s => p B2 H2 (s.grF k.fh) (k.stp s)
  | er c => exact fun B2 H2 s => p B2 H2 (s.grF k.fh) (k.stp s)
  | no => exact p
end
abbrev WxE (K : PySem.W.Frag) (Q : VK) : Da → Env → Hp → Hp → Prop := fun d _ B' H' => ∀ v, Rep K B' v d → Q v H'
abbrev WxT (Q : Bool → Hp → Prop) : Bool → Env → Hp → Hp → Prop := fun b _ _ H' => Q b H'
structure DEx (cls : String → Value) (X : Cx) (W : WX) (e : Expr) (f : Env → RX Da) : Prop where
  run : ∃ t, PE X e t ∧ ∀ (F B H : Hp) (σ : L2.St) (r : Env) (Q : VK), Ok X.K F B H σ r → Px X.K cls F B σ W (WxE X.K Q) (f r) → t σ H Q
structure DTx (cls : String → Value) (X : Cx) (W : WX) (e : Expr) (f : Env → RX Bool) : Prop where
  run : ∃ t, PT X e t ∧ ∀ (F B H : Hp) (σ : L2.St) (r : Env) (Q : Bool → Hp → Prop), Ok X.K F B H σ r → Px X.K cls F B σ W (WxT Q) (f r) → t σ H Q
structure DWx (cls : String → Value) (X : Cx) (W : WX) (e : Expr) (f : Env → RX Bool) : Prop where
  run : ∃ t, PW X e t ∧ ∀ (F B H : Hp) (σ : L2.St) (r : Env) (Q : Bool → Hp → Prop), Ok X.K F B H σ r → Px X.K cls F B σ W (WxT Q) (f r) → t σ H Q
section
variable {cls : String → Value} {X : Cx} {W : WX}
def xL {α : Type} (f : Env → R α) : Env → RX α := fun r => xR (f r) r
theorem DE.x {e : Expr} {f : Env → R Da} (h : DE cls X W e f) : DEx cls X W e (xL f) := by
  obtain ⟨t, pt, h⟩ := h.run
  exact ⟨t, pt, fun F B H σ r Q k p => h F B H σ r Q k (Px.pw p k)⟩
theorem DT.x {e : Expr} {f : Env → R Bool} (h : DT cls X W e f) : DTx cls X W e (xL f) := by
  obtain ⟨t, pt, h⟩ := h.run
  exact ⟨t, pt, fun F B H σ r Q k p => h F B H σ r Q k (Px.pw p k)⟩
theorem DWx.t {e : Expr} {f : Env → RX Bool} (h : DWx cls X W e f) : DTx cls X W e f := by
  obtain ⟨t, ht, h⟩ := h.run
  exact ⟨t, ht.pt, h⟩
def xOr (f g : Env → RX Bool) : Env → RX Bool := fun r => (f r).bind fun b r1 => if b then .ok true r1 else g r1
theorem dwx_or1 {a : Expr} {f : Env → RX Bool} {pos : Pos} (ha : DTx cls X W a f) : DWx cls X W (.BoolOp .Or [a] pos) f := by
  obtain ⟨t, ht, h⟩ := ha.run
  exact ⟨t, pw_or1 ht, h⟩
theorem dwx_or {a b : Expr} {rest : List Expr} {f g : Env → RX Bool} {pos : Pos} (ha : DTx cls X W a f) (hb : DWx cls X W (.BoolOp .Or (b :: rest) pos) g) : DWx cls X W (.BoolOp .Or (a :: b :: rest) pos) (xOr f g) := by
  obtain ⟨ta, pa, ha⟩ := ha.run
  obtain ⟨tb, pb, hb⟩ := hb.run
  refine ⟨_, pw_or pa pb, fun F B H σ r Q k p => ha F B H σ r _ k (p.bind.imp fun b r1 B' H' g1 k1 q => ?_)⟩
  cases b with
  | true => exact q B' H' (Gr.refl _ _) k1
  | false => exact hb F B' H' σ r1 Q k1 q
def xBin (g : Da → Da → R Da) (fa : Env → RX Da) (fb : Env → R Da) : Env → RX Da := fun r => (fa r).bind fun x r1 => xR ((fb r1).bind fun y => (g x y).calm) r1
theorem xbin_run {ta tb : TE} {fa : Env → RX Da} {fb : Env → R Da} {F B H : Hp} {σ : L2.St} {r : Env} {g : Da → Da → R Da} {Q : VK}
    (ha : ∀ (F B H : Hp) (σ : L2.St) (r : Env) (Q : VK), Ok X.K F B H σ r → Px X.K cls F B σ W (WxE X.K Q) (fa r) → ta σ H Q)
    (hb : ∀ (F B H : Hp) (σ : L2.St) (r : Env) (Q : VK), Ok X.K F B H σ r → Pw cls B H σ W (WfR X.K Q) (fb r) → tb σ H Q) (k : Ok X.K F B H σ r)
    (p : Px X.K cls F B σ W (WxE X.K Q) (xBin g fa fb r)) : tOp (rD X.K g) ta tb σ H Q := by
  refine ha F B H σ r _ k (p.bind.imp fun dx r1 B1 H1 g1 k1 p1 x hx => hb F B1 H1 σ r1 _ k1 ((Px.pw p1 k1).bind.imp fun dy B2 H2 s2 p2 y hy => ?_))
  obtain ⟨d, e, h⟩ := p2.calm
  exact ⟨B2, dx, dy, d, s2.bh, .inl (hx.mono s2.gr.1), hy, e, fun B' H' v s hv => h B' H' s v hv⟩
theorem dex_cmp {op : CmpOp} {g : Da → Da → R Da} {a b : Expr} {fa : Env → RX Da} {fb : Env → R Da} {pos : Pos} (ho : OpR X (compareOp op) (rD X.K g)) (ha : DEx cls X W a fa) (hb : DR cls X W b fb) (hm : behindInMarks op b = false := by first | exact nomark _ | rfl) :
    DEx cls X W (.Compare a [op] [b] pos) (xBin g fa fb) := by
  obtain ⟨ta, pa, ha⟩ := ha.run
  obtain ⟨tb, pb, hb⟩ := hb.run
  exact ⟨_, pe_cmpR ho pa pb hm, fun F B H σ r Q k p => xbin_run ha hb k p⟩
def xB (f : Env → RX Da) : Env → RX Bool := fun r => (f r).bind fun d r1 => xR (isB d) r1
theorem xB_post {F B : Hp} {σ : L2.St} {Q : Bool → Hp → Prop} {f : Env → RX Da} {r : Env} (p : Px X.K cls F B σ W (WxT Q) (xB f r)) : Px X.K cls F B σ W (WxE X.K fun v H' => ∃ k, v = .bl k ∧ Q k H') (f r) := by
  refine p.bind.imp fun d r1 B' H' g k q v hv => ?_
  cases d with
  | bool b =>
    cases hv
    exact ⟨b, rfl, q B' H' (Gr.refl _ _) k⟩
  | none => exact q.elim
  | int b => exact q.elim
  | str b => exact q.elim
  | tuple b => exact q.elim
  | list b => exact q.elim
  | dict b => exact q.elim
def xBinR (g : Da → Da → R Da) (fa : Env → R Da) (fb : Env → RX Da) : Env → RX Da := fun r => (xR (fa r) r).bind fun x r1 => (fb r1).bind fun y r2 => xR (g x y).calm r2
theorem xbinR_run {ta tb : TE} {fa : Env → R Da} {fb : Env → RX Da} {F B H : Hp} {σ : L2.St} {r : Env} {g : Da → Da → R Da} {Q : VK}
    (ha : ∀ (F B H : Hp) (σ : L2.St) (r : Env) (Q : VK), Ok X.K F B H σ r → Pw cls B H σ W (WfE X.K Q) (fa r) → ta σ H Q)
    (hb : ∀ (F B H : Hp) (σ : L2.St) (r : Env) (Q : VK), Ok X.K F B H σ r → Px X.K cls F B σ W (WxE X.K Q) (fb r) → tb σ H Q) (k : Ok X.K F B H σ r)
    (p : Px X.K cls F B σ W (WxE X.K Q) (xBinR g fa fb r)) : tOp (rD X.K g) ta tb σ H Q := by
  refine ha F B H σ r _ k ((Px.pw (Px.bind p) k).imp fun dx B1 H1 s1 p1 x hx => ?_)
  have k1 := k.stp s1
  refine hb F B1 H1 σ r _ k1 (p1.bind.imp fun dy r2 B2 H2 g2 k2 p2 y hy => ?_)
  have p3 := Px.pw p2 k2
  obtain ⟨d, e, h⟩ := p3.calm
  exact ⟨B2, dx, dy, d, k2.bh, .inl (hx.mono g2.1), .inl hy, e, fun B' H' v s hv => h B' H' s v hv⟩
theorem dtx_cmpR {op : CmpOp} {g : Da → Da → R Da} {a b : Expr} {fa : Env → R Da} {fb : Env → RX Da} {pos : Pos} (ho : OpR X (compareOp op) (rD X.K g)) (ha : DE cls X W a fa) (hb : DEx cls X W b fb) (hm : behindInMarks op b = false := by first | exact nomark _ | rfl) :
    DTx cls X W (.Compare a [op] [b] pos) (xB (xBinR g fa fb)) := by
  obtain ⟨ta, pa, ha⟩ := ha.run
  obtain ⟨tb, pb, hb⟩ := hb.run
  exact ⟨_, pt_cmpR ho pa pb hm, fun F B H σ r Q k p => xbinR_run ha hb k (xB_post p)⟩
def xAnd (f : Env → RX Da) (g : Env → R Da) : Env → RX Da := fun r => (f r).bind fun d r1 => match d with
  | .bool true => xR (g r1) r1
  | .bool false => .ok (.bool false) r1
  | _ => .no
theorem dex_and {a b : Expr} {rest : List Expr} {f : Env → RX Da} {g : Env → R Da} {pos : Pos} (ha : DEx cls X W a f) (hb : DE cls X W (.BoolOp .And (b :: rest) pos) g) : DEx cls X W (.BoolOp .And (a :: b :: rest) pos) (xAnd f g) := by
  obtain ⟨ta, pa, ha⟩ := ha.run
  obtain ⟨tb, pb, hb⟩ := hb.run
  refine ⟨_, pe_and pa pb, fun F B H σ r Q k p => ha F B H σ r _ k (p.bind.imp fun d r1 B' H' g1 k1 q v hv => ?_)⟩
  cases d with
  | bool b =>
    cases hv
    refine ⟨b, rfl, ?_⟩
    cases b with
    | true => exact hb F B' H' σ r1 Q k1 (Px.pw q k1)
    | false => exact q B' H' (Gr.refl _ _) k1 _ (.bl false)
  | none => exact q.elim
  | int b => exact q.elim
  | str b => exact q.elim
  | tuple b => exact q.elim
  | list b => exact q.elim
  | dict b => exact q.elim
def xIf (c : Env → R Bool) (f g : Env → RX Da) : Env → RX Da := fun r => (xR (c r) r).bind fun b r1 => if b then f r1 else g r1
theorem dex_if {c a b : Expr} {f : Env → R Bool} {g h : Env → RX Da} {pos : Pos} (hc : DT cls X W c f) (ha : DEx cls X W a g) (hb : DEx cls X W b h) : DEx cls X W (.IfExp c a b pos) (xIf f g h) := by
  obtain ⟨tc, pc, hc⟩ := hc.run
  obtain ⟨ta, pa, ha⟩ := ha.run
  obtain ⟨tb, pb, hb⟩ := hb.run
  refine ⟨_, pe_ifExp pc pa pb, fun F B H σ r Q k p => hc F B H σ r _ k ((Px.pw (Px.bind p) k).imp fun b B' H' s q => ?_)⟩
  cases b with
  | true => exact ha F B' H' σ r Q (k.stp s) q
  | false => exact hb F B' H' σ r Q (k.stp s) q
def bX {α : Type} (x : RX α) (g : α → Env → SR) : SR := match x with
  | .ok a r => g a r
  | .er c r => .er c r
  | .no => .no
theorem Ps.bX {α : Type} {K : PySem.W.Frag} {F B : Hp} {D : Ends} {σ : L2.St} {x : RX α} {g : α → Env → SR} (p : Ps K cls F B D W (bX x g)) : Px K cls F B σ W (fun a r B' H' => Ps K cls F B' D W (g a r)) x := by
  cases x with
  | ok a r => exact fun B2 H2 g2 k => Ps.gr p g2
  | er c r => exact fun B2 H2 g2 k => p B2 H2 σ g2 k
  | no => exact p
def sSetX (i : Nat) (f : Env → RX Da) : Env → SR := fun r => bX (f r) fun d r1 => .nx (r1.set i (.fz d))
theorem ds_setX (i : Nat) {x : Str} {e : Expr} {f : Env → RX Da} {pos pos' : Pos} (hN : X.N.Nodup) (he : DEx cls X W e f) (hi : X.N[i]? = some x := by rfl) (hx : Loc X.env.scope x := by first | exact Or.inl rfl | exact Or.inr rfl)
    (hs : swapsWith e (some (.Name x pos')) pos.line X.env = pure false := by rfl) (hf : X.fn x = true ∨ X.env.scope.names.lookup x = some .local := by first | exact .inl rfl | exact .inr rfl) : DS cls X W (.Assign [.Name x pos'] e pos) (sSetX i f) := by
  obtain ⟨t, pt, h⟩ := he.run
  exact ⟨_, ps_set hN hi hx pt hs hf, fun F B H σ r D k p => h F B H σ r _ k ((Ps.bX p).imp fun d r1 B' H' g k1 q v hv => q B' H' _ (Gr.refl _ _) (k1.setF hv))⟩
def sRetX (f : Env → RX Da) : Env → SR := fun r => bX (f r) fun d _ => .rt d
theorem ds_retX {e : Expr} {f : Env → RX Da} {pos : Pos} (he : DEx cls X W e f) : DS cls X W (.Return (some e) pos) (sRetX f) := by
  obtain ⟨t, pt, h⟩ := he.run
  exact ⟨_, ps_ret pt, fun F B H σ r D k p => h F B H σ r _ k ((Ps.bX p).imp fun d r1 B' H' g k1 q v hv => q B' H' v (Gr.refl _ _) k1.bh k1.fh hv)⟩
def sIfX (c : Env → RX Bool) (f g : Env → SR) : Env → SR := fun r => bX (c r) fun b r1 => if b then f r1 else g r1
theorem ds_ifX {c : Expr} {a b : List Stmt} {f : Env → RX Bool} {g h : Env → SR} {pos : Pos} (hc : DTx cls X W c f) (ha : DSs cls X W a g) (hb : DSs cls X W b h) : DS cls X W (.If c a b pos) (sIfX f g h) := by
  obtain ⟨tc, pc, hc⟩ := hc.run
  obtain ⟨ta, pa, ha⟩ := ha.run
  obtain ⟨tb, pb, hb⟩ := hb.run
  refine ⟨_, ps_if pc pa pb, fun F B H σ r D k p => hc F B H σ r _ k ((Ps.bX p).imp fun b r1 B' H' g1 k1 q => ?_)⟩
  cases b with
  | true => exact ha F B' H' σ r1 D k1 q
  | false => exact hb F B' H' σ r1 D k1 q
def boB (r : Env) (i j : Nat) (f : Da → List (List Da) → List Da → RX Da) : RX Da := match r[i]? with
  | some (.cm ⟨.bo, w, ls⟩) => (match ls[j]? with
    | some l => f w ls l
    | none => .no)
  | _ => .no
def xFapp (i j : Nat) (f : Env → R Da) : Env → RX Da := fun r => boB r i j fun w ls l => (xR (f r) r).bind fun d r1 => if l.length < 100000 then .ok .none (r1.set i (.cm ⟨.bo, w, ls.set j (l ++ [d])⟩)) else .no
def xFpop (i j : Nat) : Env → RX Da := fun r => boB r i j fun w ls l => match l.getLast? with
  | some d => .ok d (r.set i (.cm ⟨.bo, w, ls.set j l.dropLast⟩))
  | none => .no
def xFmove (i a b : Nat) : Env → RX Da := fun r => boB r i a fun w ls la => match ls[b]? with
  | some lb => (match lb.getLast? with
    | some d => if la.length < 100000 then .ok .none (r.set i (.cm ⟨.bo, w, (ls.set b lb.dropLast).set a (la ++ [d])⟩)) else .no
    | none => .no)
  | none => .no
theorem rep_last {K : PySem.W.Frag} {B : Hp} {xs : List V} {l : List Da} {d : Da} (h : RepAll K B xs l) (e : l.getLast? = some d) : ∃ v, xs[xs.length - 1]? = some v ∧ Rep K B v d := by
  rw [List.getLast?_eq_getElem?, ← h.length] at e
  exact h.get e
theorem fld_at {wv : V} {q1 q2 q3 q : Addr} {j : Nat} (h : [q1, q2, q3][j]? = some q) : [(("world" : Str), wv), ("row", .ref q1), ("numbers", .ref q2), ("undone", .ref q3)].lookup (cNm j) = some (.ref q) := by
  match j, h with
  | 0, h => cases h; rfl
  | 1, h => cases h; rfl
  | 2, h => cases h; rfl
  | j + 3, h => cases h
theorem boB_post {F B : Hp} {σ : L2.St} {i j : Nat} {r : Env} {f : Da → List (List Da) → List Da → RX Da} {φ : Da → Env → Hp → Hp → Prop} (p : Px X.K cls F B σ W φ (boB r i j f)) : ∃ w ls l, r[i]? = some (.cm ⟨.bo, w, ls⟩) ∧ ls[j]? = some l ∧ Px X.K cls F B σ W φ (f w ls l) := by
  unfold boB at p
  split at p
  · rename_i w ls e0
    split at p
    · rename_i l e1
      exact ⟨w, ls, l, e0, e1, p⟩
    · exact p.elim
  · exact p.elim
theorem dex_fapp (i j : Nat) (c : BCls X.K) {x f : Str} {e : Expr} {fe : Env → R Da} {p pa apos cpos : Pos} (he : DE cls X W e fe) (hf : f = cNm j := by rfl) (hN : X.N[i]? = some x := by rfl) (hv : Vis X.env.scope x := by first | exact Or.inl rfl | exact Or.inr (Or.inl rfl) | exact Or.inr (Or.inr rfl)) (hd : (x == ("__debug__" : Str)) = false := by decide) (hcd : (x == ("__classdict__" : Str)) = false := by decide)
    (hb : attributeBase (.Name x p) f X.env (eval (.Name x p) X.env) = eval (.Name x p) X.env := by rfl)
    (hbase : attributeBase (.Attribute (.Name x p) f pa) "append" X.env (eval (.Attribute (.Name x p) f pa) X.env) = eval (.Attribute (.Name x p) f pa) X.env := by rfl)
    (hfew : ((backTo cpos (starEach [e] X.env)).all (fun x => !x.1) && (backToKw cpos (keywordEach [] X.env)).all (fun x => x.1.isSome)
      && decide ([e].length + ([] : List Keyword).length + (if ([] : List Keyword).isEmpty then 0 else 1) < 30)) = true := by rfl)
    (hline : (apos.endLine == cpos.line) = true := by rfl) (hs : starEach [e] X.env = (false, eval e X.env) :: starEach [] X.env := by rfl) :
    DEx cls X W (.Call (.Attribute (.Attribute (.Name x p) f pa) "append" apos) [e] [] cpos) (xFapp i j fe) := by
  subst hf
  obtain ⟨t, pt, h⟩ := he.run
  refine ⟨_, pe_bm PySem.F.plainAttrs_list PySem.F.slot_list_append PySem.F.type_list_append mt_append (pe_fld (pe_var hN hv hd hcd) hb) (pa_cons pt pa_nil hs) hbase hfew hline hs rfl, fun F B H σ r Q k q => ?_⟩
  obtain ⟨w, ls, l, e0, e1, q⟩ := boB_post q
  obtain ⟨a, h1, h2⟩ := k.sl i _ e0
  obtain ⟨dx, q1, q2, q3, wv, l1, l2, l3, rfl, g1, g2, g3, g4⟩ := h2.bo
  obtain ⟨qj, xs, z1, z2, z3⟩ := g3.get e1
  refine ⟨.ref a, h1, a, bC X.K, dx, _, .ref qj, rfl, g1, c.cl, c.atC j, fld_at z1, .inl ⟨rfl, xs, .inl (.inl z2)⟩, ?_⟩
  refine h F B H σ r _ k ((Px.pw (Px.bind q) k).imp fun d B' H' s q v hv => ?_)
  by_cases hl : l.length < 100000
  · rw [if_pos hl] at q
    have k' := k.stp s
    have hx := z3.length
    have g3' : LsO X.K B' H' [q1, q2, q3] [l1, l2, l3] := g3.mono s.gr.1 fun y hy => (k.stp_at s ⟨_, a, e0, h1, by rw [ft_at g1 (.bo g2)]; exact List.mem_cons_of_mem _ hy⟩).1
    have hH' : H' a = H a := (k.stp_at s ⟨_, a, e0, h1, List.mem_cons_self⟩).1
    exact ⟨qj, xs, v, rfl, rfl, s.hh.at z2, szlt (by omega), q B' _ (Gr.refl _ _) (k'.cmput e0 h1 (hH'.trans g1) (.bo (g2.mono s.gr.1)) g3' g4 z1 ((z3.mono s.gr.1).append (.one hv))) _ .non⟩
  · rw [if_neg hl] at q
    exact q.elim
theorem dex_fpop (i j : Nat) (c : BCls X.K) {x f : Str} {p pa apos cpos : Pos} (hf : f = cNm j := by rfl) (hN : X.N[i]? = some x := by rfl) (hv : Vis X.env.scope x := by first | exact Or.inl rfl | exact Or.inr (Or.inl rfl) | exact Or.inr (Or.inr rfl)) (hd : (x == ("__debug__" : Str)) = false := by decide) (hcd : (x == ("__classdict__" : Str)) = false := by decide)
    (hb : attributeBase (.Name x p) f X.env (eval (.Name x p) X.env) = eval (.Name x p) X.env := by rfl)
    (hbase : attributeBase (.Attribute (.Name x p) f pa) "pop" X.env (eval (.Attribute (.Name x p) f pa) X.env) = eval (.Attribute (.Name x p) f pa) X.env := by rfl) (hline : (apos.endLine == cpos.line) = true := by rfl) :
    DEx cls X W (.Call (.Attribute (.Attribute (.Name x p) f pa) "pop" apos) [] [] cpos) (xFpop i j) := by
  subst hf
  refine ⟨_, pe_bm0 PySem.F.plainAttrs_list PySem.F.slot_list_pop PySem.F.type_list_pop mt_pop (pe_fld (pe_var hN hv hd hcd) hb) hbase hline, fun F B H σ r Q k q => ?_⟩
  obtain ⟨w, ls, l, e0, e1, q⟩ := boB_post q
  obtain ⟨a, h1, h2⟩ := k.sl i _ e0
  obtain ⟨dx, q1, q2, q3, wv, l1, l2, l3, rfl, g1, g2, g3, g4⟩ := h2.bo
  obtain ⟨qj, xs, z1, z2, z3⟩ := g3.get e1
  split at q
  · rename_i d ed
    obtain ⟨v, y1, y2⟩ := rep_last z3 ed
    exact ⟨.ref a, h1, a, bC X.K, dx, _, .ref qj, rfl, g1, c.cl, c.atC j, fld_at z1, .inl ⟨rfl, xs, .inl (.inl z2)⟩, qj, xs, v, rfl, rfl, z2, y1, q B _ (Gr.refl _ _) (k.cmput e0 h1 g1 (.bo g2) g3 g4 z1 z3.dropL) v y2⟩
  · exact q.elim
theorem dex_fmove (i a b : Nat) (c : BCls X.K) {x fa fb : Str} {p pa pb p2 apos cpos apos2 cpos2 : Pos} (hfa : fa = cNm a := by rfl) (hfb : fb = cNm b := by rfl) (hab : a ≠ b := by decide) (hN : X.N[i]? = some x := by rfl) (hv : Vis X.env.scope x := by first | exact Or.inl rfl | exact Or.inr (Or.inl rfl) | exact Or.inr (Or.inr rfl)) (hd : (x == ("__debug__" : Str)) = false := by decide) (hcd : (x == ("__classdict__" : Str)) = false := by decide)
    (hb : attributeBase (.Name x p) fa X.env (eval (.Name x p) X.env) = eval (.Name x p) X.env := by rfl)
    (hbase : attributeBase (.Attribute (.Name x p) fa pa) "append" X.env (eval (.Attribute (.Name x p) fa pa) X.env) = eval (.Attribute (.Name x p) fa pa) X.env := by rfl)
    (hb2 : attributeBase (.Name x p2) fb X.env (eval (.Name x p2) X.env) = eval (.Name x p2) X.env := by rfl)
    (hbase2 : attributeBase (.Attribute (.Name x p2) fb pb) "pop" X.env (eval (.Attribute (.Name x p2) fb pb) X.env) = eval (.Attribute (.Name x p2) fb pb) X.env := by rfl) (hline2 : (apos2.endLine == cpos2.line) = true := by rfl)
    (hfew : ((backTo cpos (starEach [.Call (.Attribute (.Attribute (.Name x p2) fb pb) "pop" apos2) [] [] cpos2] X.env)).all (fun x => !x.1) && (backToKw cpos (keywordEach [] X.env)).all (fun x => x.1.isSome)
      && decide ([(.Call (.Attribute (.Attribute (.Name x p2) fb pb) "pop" apos2) [] [] cpos2 : Expr)].length + ([] : List Keyword).length + (if ([] : List Keyword).isEmpty then 0 else 1) < 30)) = true := by rfl)
    (hline : (apos.endLine == cpos.line) = true := by rfl) (hs : starEach [.Call (.Attribute (.Attribute (.Name x p2) fb pb) "pop" apos2) [] [] cpos2] X.env = (false, eval (.Call (.Attribute (.Attribute (.Name x p2) fb pb) "pop" apos2) [] [] cpos2) X.env) :: starEach [] X.env := by rfl) :
    DEx cls X W (.Call (.Attribute (.Attribute (.Name x p) fa pa) "append" apos) [.Call (.Attribute (.Attribute (.Name x p2) fb pb) "pop" apos2) [] [] cpos2] [] cpos) (xFmove i a b) := by
  subst hfa hfb
  refine ⟨_, pe_bm PySem.F.plainAttrs_list PySem.F.slot_list_append PySem.F.type_list_append mt_append (pe_fld (pe_var hN hv hd hcd) hb) (pa_cons (pe_bm0 PySem.F.plainAttrs_list PySem.F.slot_list_pop PySem.F.type_list_pop mt_pop (pe_fld (pe_var hN hv hd hcd) hb2) hbase2 hline2) pa_nil hs) hbase hfew hline hs rfl, fun F B H σ r Q k q => ?_⟩
  obtain ⟨w, ls, l, e0, e1, q⟩ := boB_post q
  obtain ⟨ad, h1, h2⟩ := k.sl i _ e0
  obtain ⟨dx, q1, q2, q3, wv, l1, l2, l3, rfl, g1, g2, g3, g4⟩ := h2.bo
  obtain ⟨qa, xs, z1, z2, z3⟩ := g3.get e1
  split at q
  · rename_i lb eb
    split at q
    · rename_i d ed
      obtain ⟨qb, ys, y1, y2, y3⟩ := g3.get eb
      obtain ⟨v, u1, u2⟩ := rep_last y3 ed
      by_cases hl : l.length < 100000
      · rw [if_pos hl] at q
        have nab : qa ≠ qb := fun z => by
          subst z
          obtain ⟨h3, h4⟩ := List.getElem?_eq_some_iff.mp z1
          obtain ⟨h5, h6⟩ := List.getElem?_eq_some_iff.mp y1
          have nd := (List.nodup_cons.mp g4).2
          rcases Nat.lt_or_gt_of_ne hab with z | z
          · exact List.pairwise_iff_getElem.mp nd a b h3 h5 z (h4.trans h6.symm)
          · exact List.pairwise_iff_getElem.mp nd b a h5 h3 z (h6.trans h4.symm)
        have hx := z3.length
        have k1 := k.cmput e0 h1 g1 (.bo g2) g3 g4 y1 y3.dropL
        have il : i < r.length := (List.getElem?_eq_some_iff.mp e0).1
        have nqb : ad ≠ qb := fun z => by subst z; rw [g1] at y2; cases y2
        have g3' : LsO X.K B (upd H qb (.lst ys.dropLast)) [q1, q2, q3] ([l1, l2, l3].set b lb.dropLast) := g3.put y3.dropL (List.nodup_cons.mp g4).2 y1
        have k2 := k1.cmput (c := ⟨.bo, w, [l1, l2, l3].set b lb.dropLast⟩) (List.getElem?_set_self il) h1 (by rw [upd_ne nqb]; exact g1) (.bo g2) g3' g4 z1 (z3.append (.one u2))
        rw [List.set_set] at k2
        exact ⟨.ref ad, h1, ad, bC X.K, dx, _, .ref qa, rfl, g1, c.cl, c.atC a, fld_at z1, .inl ⟨rfl, xs, .inl (.inl z2)⟩, .ref ad, h1, ad, bC X.K, dx, _, .ref qb, rfl, g1, c.cl, c.atC b, fld_at y1, .inl ⟨rfl, ys, .inl (.inl y2)⟩, qb, ys, v, rfl, rfl, y2, u1,
          qa, xs, v, rfl, rfl, by rw [upd_ne nab]; exact z2, szlt (by omega), q B _ (Gr.refl _ _) k2 _ .non⟩
      · rw [if_neg hl] at q
        exact q.elim
    · exact q.elim
  · exact q.elim
def xApp (i : Nat) (f : Env → R Da) : Env → RX Da := fun r => match r[i]? with
  | some (.ow (.list ds)) => (xR (f r) r).bind fun d r1 => if ds.length < 100000 then .ok .none (r1.set i (.ow (.list (ds ++ [d])))) else .no
  | _ => .no
def xPop (i : Nat) : Env → RX Da := fun r => match r[i]? with
  | some (.ow (.list ds)) => (match ds.getLast? with
    | some d => .ok d (r.set i (.ow (.list ds.dropLast)))
    | none => .no)
  | _ => .no
def xClr (i : Nat) : Env → RX Da := fun r => match r[i]? with
  | some (.ow (.list _)) => .ok .none (r.set i (.ow (.list [])))
  | _ => .no
def xMove (a b : Nat) : Env → RX Da := fun r => match r[a]?, r[b]? with
  | some (.ow (.list la)), some (.ow (.list lb)) => (match lb.getLast? with
    | some d => if la.length < 100000 then .ok .none ((r.set b (.ow (.list lb.dropLast))).set a (.ow (.list (la ++ [d])))) else .no
    | none => .no)
  | _, _ => .no
theorem dex_app (i : Nat) {x : Str} {e : Expr} {f : Env → R Da} {p apos cpos : Pos} (he : DE cls X W e f) (hN : X.N[i]? = some x := by rfl) (hv : Vis X.env.scope x := by first | exact Or.inl rfl | exact Or.inr (Or.inl rfl) | exact Or.inr (Or.inr rfl))
    (hd : (x == ("__debug__" : Str)) = false := by decide) (hcd : (x == ("__classdict__" : Str)) = false := by decide)
    (hbase : attributeBase (.Name x p) "append" X.env (eval (.Name x p) X.env) = eval (.Name x p) X.env := by rfl)
    (hfew : ((backTo cpos (starEach [e] X.env)).all (fun x => !x.1) && (backToKw cpos (keywordEach [] X.env)).all (fun x => x.1.isSome)
      && decide ([e].length + ([] : List Keyword).length + (if ([] : List Keyword).isEmpty then 0 else 1) < 30)) = true := by rfl)
    (hline : (apos.endLine == cpos.line) = true := by rfl) (hs : starEach [e] X.env = (false, eval e X.env) :: starEach [] X.env := by rfl) :
    DEx cls X W (.Call (.Attribute (.Name x p) "append" apos) [e] [] cpos) (xApp i f) := by
  obtain ⟨t, pt, h⟩ := he.run
  refine ⟨_, pe_bm PySem.F.plainAttrs_list PySem.F.slot_list_append PySem.F.type_list_append mt_append (pe_var hN hv hd hcd) (pa_cons pt pa_nil hs) hbase hfew hline hs rfl, fun F B H σ r Q k q => ?_⟩
  unfold xApp at q
  split at q
  · rename_i ds e0
    obtain ⟨a, h1, b1, b2, xs, b3, b4⟩ := k.sl i _ e0
    refine ⟨.ref a, h1, .inl ⟨rfl, xs, .inl (.inl b3)⟩, ?_⟩
    refine h F B H σ r _ k ((Px.pw (Px.bind q) k).imp fun d B' H' s q v hv => ?_)
    by_cases hl : ds.length < 100000
    · rw [if_pos hl] at q
      have k' := k.stp s
      have hx := b4.length
      exact ⟨a, xs, v, rfl, rfl, s.hh _ _ b3, szlt (by omega), q B' _ (Gr.refl _ _) (k'.put e0 h1 ⟨xs ++ [v], upd_same, (b4.mono s.gr.1).append (.one hv)⟩) _ .non⟩
    · rw [if_neg hl] at q
      exact q.elim
  · exact q.elim
theorem dex_pop (i : Nat) {x : Str} {p apos cpos : Pos} (hN : X.N[i]? = some x := by rfl) (hv : Vis X.env.scope x := by first | exact Or.inl rfl | exact Or.inr (Or.inl rfl) | exact Or.inr (Or.inr rfl))
    (hd : (x == ("__debug__" : Str)) = false := by decide) (hcd : (x == ("__classdict__" : Str)) = false := by decide)
    (hbase : attributeBase (.Name x p) "pop" X.env (eval (.Name x p) X.env) = eval (.Name x p) X.env := by rfl) (hline : (apos.endLine == cpos.line) = true := by rfl) :
    DEx cls X W (.Call (.Attribute (.Name x p) "pop" apos) [] [] cpos) (xPop i) := by
  refine ⟨_, pe_bm0 PySem.F.plainAttrs_list PySem.F.slot_list_pop PySem.F.type_list_pop mt_pop (pe_var hN hv hd hcd) hbase hline, fun F B H σ r Q k q => ?_⟩
  unfold xPop at q
  split at q
  · rename_i ds e0
    obtain ⟨a, h1, b1, b2, xs, b3, b4⟩ := k.sl i _ e0
    split at q
    · rename_i d ed
      obtain ⟨v, y1, y2⟩ := rep_last b4 ed
      exact ⟨.ref a, h1, .inl ⟨rfl, xs, .inl (.inl b3)⟩, a, xs, v, rfl, rfl, b3, y1, q B _ (Gr.refl _ _) (k.put e0 h1 ⟨_, upd_same, b4.dropL⟩) v y2⟩
    · exact q.elim
  · exact q.elim
theorem dex_clr (i : Nat) {x : Str} {p apos cpos : Pos} (hN : X.N[i]? = some x := by rfl) (hv : Vis X.env.scope x := by first | exact Or.inl rfl | exact Or.inr (Or.inl rfl) | exact Or.inr (Or.inr rfl))
    (hd : (x == ("__debug__" : Str)) = false := by decide) (hcd : (x == ("__classdict__" : Str)) = false := by decide)
    (hbase : attributeBase (.Name x p) "clear" X.env (eval (.Name x p) X.env) = eval (.Name x p) X.env := by rfl) (hline : (apos.endLine == cpos.line) = true := by rfl) :
    DEx cls X W (.Call (.Attribute (.Name x p) "clear" apos) [] [] cpos) (xClr i) := by
  refine ⟨_, pe_bm0 PySem.F.plainAttrs_list PySem.F.slot_list_clear PySem.F.type_list_clear mt_clear (pe_var hN hv hd hcd) hbase hline, fun F B H σ r Q k q => ?_⟩
  unfold xClr at q
  split at q
  · rename_i ds e0
    obtain ⟨a, h1, b1, b2, xs, b3, b4⟩ := k.sl i _ e0
    exact ⟨.ref a, h1, .inl ⟨rfl, xs, .inl (.inl b3)⟩, a, xs, rfl, rfl, b3, q B _ (Gr.refl _ _) (k.put e0 h1 ⟨[], upd_same, .nil⟩) _ .non⟩
  · exact q.elim
theorem dex_move (a b : Nat) {x y : Str} {p p2 apos cpos apos2 cpos2 : Pos} (hab : a ≠ b := by decide) (hN : X.N[a]? = some x := by rfl) (hv : Vis X.env.scope x := by first | exact Or.inl rfl | exact Or.inr (Or.inl rfl) | exact Or.inr (Or.inr rfl)) (hd : (x == ("__debug__" : Str)) = false := by decide) (hcd : (x == ("__classdict__" : Str)) = false := by decide)
    (hN2 : X.N[b]? = some y := by rfl) (hv2 : Vis X.env.scope y := by first | exact Or.inl rfl | exact Or.inr (Or.inl rfl) | exact Or.inr (Or.inr rfl)) (hd2 : (y == ("__debug__" : Str)) = false := by decide) (hcd2 : (y == ("__classdict__" : Str)) = false := by decide)
    (hbase : attributeBase (.Name x p) "append" X.env (eval (.Name x p) X.env) = eval (.Name x p) X.env := by rfl)
    (hbase2 : attributeBase (.Name y p2) "pop" X.env (eval (.Name y p2) X.env) = eval (.Name y p2) X.env := by rfl) (hline2 : (apos2.endLine == cpos2.line) = true := by rfl)
    (hfew : ((backTo cpos (starEach [.Call (.Attribute (.Name y p2) "pop" apos2) [] [] cpos2] X.env)).all (fun x => !x.1) && (backToKw cpos (keywordEach [] X.env)).all (fun x => x.1.isSome)
      && decide ([(.Call (.Attribute (.Name y p2) "pop" apos2) [] [] cpos2 : Expr)].length + ([] : List Keyword).length + (if ([] : List Keyword).isEmpty then 0 else 1) < 30)) = true := by rfl)
    (hline : (apos.endLine == cpos.line) = true := by rfl) (hs : starEach [.Call (.Attribute (.Name y p2) "pop" apos2) [] [] cpos2] X.env = (false, eval (.Call (.Attribute (.Name y p2) "pop" apos2) [] [] cpos2) X.env) :: starEach [] X.env := by rfl) :
    DEx cls X W (.Call (.Attribute (.Name x p) "append" apos) [.Call (.Attribute (.Name y p2) "pop" apos2) [] [] cpos2] [] cpos) (xMove a b) := by
  refine ⟨_, pe_bm PySem.F.plainAttrs_list PySem.F.slot_list_append PySem.F.type_list_append mt_append (pe_var hN hv hd hcd) (pa_cons (pe_bm0 PySem.F.plainAttrs_list PySem.F.slot_list_pop PySem.F.type_list_pop mt_pop (pe_var hN2 hv2 hd2 hcd2) hbase2 hline2) pa_nil hs) hbase hfew hline hs rfl, fun F B H σ r Q k q => ?_⟩
  unfold xMove at q
  split at q
  · rename_i la lb e0 e1
    split at q
    · rename_i d ed
      obtain ⟨qa, h1, b1, b2, xs, b3, b4⟩ := k.sl a _ e0
      obtain ⟨qb, j1, c1, c2, ys, c3, c4⟩ := k.sl b _ e1
      obtain ⟨v, u1, u2⟩ := rep_last c4 ed
      by_cases hl : la.length < 100000
      · rw [if_pos hl] at q
        have nab : qa ≠ qb := fun z => by
          subst z
          exact k.inj a b _ _ _ hab e0 e1 h1 j1
        have hx := b4.length
        have k1 := k.put (o' := .lst ys.dropLast) (d := .list lb.dropLast) e1 j1 ⟨_, upd_same, c4.dropL⟩
        have k2 := k1.put (o' := .lst (xs ++ [v])) (d := .list (la ++ [d])) (by rw [List.getElem?_set_ne (Ne.symm hab)]; exact e0) h1 ⟨_, upd_same, b4.append (.one u2)⟩
        exact ⟨.ref qa, h1, .inl ⟨rfl, xs, .inl (.inl b3)⟩, .ref qb, j1, .inl ⟨rfl, ys, .inl (.inl c3)⟩, qb, ys, v, rfl, rfl, c3, u1, qa, xs, v, rfl, rfl, by rw [upd_ne nab]; exact b3, szlt (by omega), q B _ (Gr.refl _ _) k2 _ .non⟩
      · rw [if_neg hl] at q
        exact q.elim
    · exact q.elim
  · exact q.elim
end
end Mi

namespace Mi
open PySem PySem.Spec PyProof.Rows L2
inductive RM where
  | ok (d : Da) (c : Cm)
  | er (e : String) (c : Cm)
  | no
inductive SX where
  | nx (r : Env)
  | rt (d : Da) (r : Env)
  | er (c : String) (r : Env)
  | no
def Pin (L : List Nat) (τ : Nat → Option (Option V)) (σ : L2.St) : Prop := ∀ i ∈ L, σ[i]? = τ i
theorem Pin.set {L : List Nat} {τ : Nat → Option (Option V)} {σ : L2.St} {i : Nat} {v : Option V} (p : Pin L τ σ) (h : i ∉ L) : Pin L τ (σ.set i v) := fun j hj => by
  rw [List.getElem?_set_ne (fun z => by subst z; exact h hj)]
  exact p j hj
def Psx (K : PySem.W.Frag) (cls : String → Value) (F B : Hp) (D : Ends) (W : WX) (L : List Nat) (τ : Nat → Option (Option V)) : SX → Prop
  | .nx r => ∀ B' H' σ', Gr F B B' → Ok K F B' H' σ' r → Pin L τ σ' → D.nx σ' H'
  | .rt d r => ∀ B' H' σ' v, Gr F B B' → Ok K F B' H' σ' r → Pin L τ σ' → Rep K B' v d → D.rt v H'
  | .er c r => ∀ B' H' σ', Gr F B B' → Ok K F B' H' σ' r → Pin L τ σ' → W (cls c) none σ' H'
  | .no => False
section
variable {K : PySem.W.Frag} {cls : String → Value} {F B B' H H' : Hp} {D : Ends} {W : WX} {σ : L2.St} {r : Env} {L : List Nat} {τ : Nat → Option (Option V)}
theorem Psx.gr {x : SX} (p : Psx K cls F B D W L τ x) (g : Gr F B B') : Psx K cls F B' D W L τ x := by
  cases x with
  | nx r => exact fun B2 H2 σ2 g2 k => p B2 H2 σ2 (g.trans g2) k
  | rt d r => exact fun B2 H2 σ2 v g2 k => p B2 H2 σ2 v (g.trans g2) k
  | er c r => exact fun B2 H2 σ2 g2 k => p B2 H2 σ2 (g.trans g2) k
  | no => exact p
def bZ {α : Type} (x : RX α) (g : α → Env → SX) : SX := match x with
  | .ok a r => g a r
  | .er c r => .er c r
  | .no => .no
theorem Psx.bZ {α : Type} {x : RX α} {g : α → Env → SX} (p : Psx K cls F B D W L τ (bZ x g)) (hp : Pin L τ σ) : Px K cls F B σ W (fun a r B' H' => Psx K cls F B' D W L τ (g a r)) x := by
  cases x with
  | ok a r => exact fun B2 H2 g2 k => Psx.gr p g2
  | er c r => exact fun B2 H2 g2 k => p B2 H2 σ g2 k hp
  | no => exact p
end
structure DSx (cls : String → Value) (X : Cx) (W : WX) (L : List Nat) (st : Stmt) (g : Env → SX) : Prop where
  run : ∃ t, PS X st t ∧ ∀ (τ : Nat → Option (Option V)) (F B H : Hp) (σ : L2.St) (r : Env) (D : Ends), Ok X.K F B H σ r → Pin L τ σ → Psx X.K cls F B D W L τ (g r) → t D σ H
structure DSxs (cls : String → Value) (X : Cx) (W : WX) (L : List Nat) (sts : List Stmt) (g : Env → SX) : Prop where
  run : ∃ t, PSs X sts t ∧ ∀ (τ : Nat → Option (Option V)) (F B H : Hp) (σ : L2.St) (r : Env) (D : Ends), Ok X.K F B H σ r → Pin L τ σ → Psx X.K cls F B D W L τ (g r) → t D σ H
section
variable {cls : String → Value} {X : Cx} {W : WX} {L : List Nat}
def zNil : Env → SX := fun r => .nx r
def zSeq (f g : Env → SX) : Env → SX := fun r => match f r with
  | .nx r1 => g r1
  | x => x
theorem dxs_nil : DSxs cls X W L [] zNil := ⟨_, pss_nil, fun τ F B H σ r D k hp p => p B H σ (Gr.refl _ _) k hp⟩
theorem zseq_post {K : PySem.W.Frag} {F B : Hp} {D : Ends} {f g : Env → SX} {r : Env} {τ : Nat → Option (Option V)} {tu : TS} (p : Psx K cls F B D W L τ (zSeq f g r)) (h : ∀ (τ : Nat → Option (Option V)) (F B H : Hp) (σ : L2.St) (r : Env) (D : Ends), Ok K F B H σ r → Pin L τ σ → Psx K cls F B D W L τ (g r) → tu D σ H) : Psx K cls F B { D with nx := fun σ H => tu D σ H } W L τ (f r) := by
  unfold zSeq at p
  cases q : f r with
  | nx r1 => rw [q] at p; exact fun B' H' σ' g1 k hp => h τ F B' H' σ' r1 D k hp (Psx.gr p g1)
  | rt d r1 => rw [q] at p; exact p
  | er c r1 => rw [q] at p; exact p
  | no => rw [q] at p; exact p
theorem dxs_cons {st : Stmt} {rest : List Stmt} {f g : Env → SX} (h1 : DSx cls X W L st f) (h2 : DSxs cls X W L rest g) : DSxs cls X W L (st :: rest) (zSeq f g) := by
  obtain ⟨t, pt, h1⟩ := h1.run
  obtain ⟨u, pu, h2⟩ := h2.run
  exact ⟨_, pss_cons pt pu, fun τ F B H σ r D k hp p => h1 τ F B H σ r _ k hp (zseq_post p h2)⟩
theorem dxs_one {st : Stmt} {f : Env → SX} (h1 : DSx cls X W L st f) : DSxs cls X W L [st] f := by
  obtain ⟨t, pt, h1⟩ := h1.run
  exact ⟨_, pss_one pt, h1⟩
def zExp (f : Env → RX Da) : Env → SX := fun r => bZ (f r) fun _ r1 => .nx r1
theorem dx_expr {e : Expr} {f : Env → RX Da} {pos : Pos} (he : DEx cls X W e f) (hs : swapsWith e none pos.line X.env = pure false := by rfl) : DSx cls X W L (.Expr e pos) (zExp f) := by
  obtain ⟨t, pt, h⟩ := he.run
  exact ⟨_, ps_expr pt hs, fun τ F B H σ r D k hp p => h F B H σ r _ k ((Psx.bZ p hp).imp fun d r1 B' H' g k1 q v hv => q B' H' σ (Gr.refl _ _) k1 hp)⟩
def zSet (i : Nat) (f : Env → RX Da) : Env → SX := fun r => bZ (f r) fun d r1 => .nx (r1.set i (.fz d))
theorem dx_set (i : Nat) {x : Str} {e : Expr} {f : Env → RX Da} {pos pos' : Pos} (hN : X.N.Nodup) (he : DEx cls X W e f) (hL : i ∉ L := by decide) (hi : X.N[i]? = some x := by rfl) (hx : Loc X.env.scope x := by first | exact Or.inl rfl | exact Or.inr rfl)
    (hs : swapsWith e (some (.Name x pos')) pos.line X.env = pure false := by rfl) (hf : X.fn x = true ∨ X.env.scope.names.lookup x = some .local := by first | exact .inl rfl | exact .inr rfl) : DSx cls X W L (.Assign [.Name x pos'] e pos) (zSet i f) := by
  obtain ⟨t, pt, h⟩ := he.run
  exact ⟨_, ps_set hN hi hx pt hs hf, fun τ F B H σ r D k hp p => h F B H σ r _ k ((Psx.bZ p hp).imp fun d r1 B' H' g k1 q v hv => q B' H' _ (Gr.refl _ _) (k1.setF hv) (hp.set hL))⟩
def zOwn (i : Nat) (f : Env → R Da) : Env → SX := fun r => bZ (xR (f r) r) fun d r1 => .nx (r1.set i (.ow d))
theorem dx_own (i : Nat) {x : Str} {e : Expr} {f : Env → R Da} {pos pos' : Pos} (hN : X.N.Nodup) (he : DF cls X W e f) (hL : i ∉ L := by decide) (hi : X.N[i]? = some x := by rfl) (hx : Loc X.env.scope x := by first | exact Or.inl rfl | exact Or.inr rfl)
    (hs : swapsWith e (some (.Name x pos')) pos.line X.env = pure false := by rfl) (hf : X.fn x = true ∨ X.env.scope.names.lookup x = some .local := by first | exact .inl rfl | exact .inr rfl) : DSx cls X W L (.Assign [.Name x pos'] e pos) (zOwn i f) := by
  obtain ⟨t, pt, h⟩ := he.run
  exact ⟨_, ps_set hN hi hx pt hs hf, fun τ F B H σ r D k hp p => h F B H σ r _ k ((Px.pw (Psx.bZ p hp) k).imp fun d B' H' s q v n b o => q B' H' _ (Gr.refl _ _) (k.own s n b o) (hp.set hL))⟩
def zRet (f : Env → RX Da) : Env → SX := fun r => bZ (f r) fun d r1 => .rt d r1
theorem dx_ret {e : Expr} {f : Env → RX Da} {pos : Pos} (he : DEx cls X W e f) : DSx cls X W L (.Return (some e) pos) (zRet f) := by
  obtain ⟨t, pt, h⟩ := he.run
  exact ⟨_, ps_ret pt, fun τ F B H σ r D k hp p => h F B H σ r _ k ((Psx.bZ p hp).imp fun d r1 B' H' g k1 q v hv => q B' H' σ v (Gr.refl _ _) k1 hp hv)⟩
def zIf (c : Env → R Bool) (f g : Env → SX) : Env → SX := fun r => bZ (xR (c r) r) fun b r1 => if b then f r1 else g r1
theorem dx_if {c : Expr} {a b : List Stmt} {f : Env → R Bool} {g h : Env → SX} {pos : Pos} (hc : DT cls X W c f) (ha : DSxs cls X W L a g) (hb : DSxs cls X W L b h) : DSx cls X W L (.If c a b pos) (zIf f g h) := by
  obtain ⟨tc, pc, hc⟩ := hc.run
  obtain ⟨ta, pa, ha⟩ := ha.run
  obtain ⟨tb, pb, hb⟩ := hb.run
  refine ⟨_, ps_if pc pa pb, fun τ F B H σ r D k hp p => hc F B H σ r _ k ((Px.pw (Psx.bZ p hp) k).imp fun b B' H' s q => ?_)⟩
  cases b with
  | true => exact ha τ F B' H' σ r D (k.stp s) hp q
  | false => exact hb τ F B' H' σ r D (k.stp s) hp q
def zRaise (c : String) : Env → SX := fun r => .er c r
theorem dx_raise {x m : Str} {c : String} {j : Nat} {p p2 pos pos' : Pos} (F0 : ExF X.K X.mg cls x c) (tk : Takes X W) (hg : Gl X x := by rfl) (hc : X.calm = true := by rfl) (hdb : (x == ("__debug__" : Str)) = false := by decide) :
    DSx cls X W L (.Raise (some (.Call (.Name x p) [.Constant (.str m) j p2] [] pos)) none pos') (zRaise c) := by
  obtain ⟨C, e0, gP, xP, kP, bP, tP⟩ := F0.ex
  refine ⟨_, ps_raise hc tk (pmk_own PySem.F.excBase_ValueError xP gP kP (raises_own bP tP) hg hdb), fun τ F B H σ r D k hp q => ?_⟩
  have q := q B H σ (Gr.refl _ _) k hp
  rw [e0] at q
  exact q
def zFnew (i : Nat) : Env → SX := fun r => match r[i]? with
  | some (.cm ⟨.bo, w, [l1, l2, _]⟩) => .nx (r.set i (.cm ⟨.bo, w, [l1, l2, []]⟩))
  | _ => .no
theorem dx_fnew (i : Nat) (c : BCls X.K) {x f : Str} {p lp pos pos' : Pos} (hf : f = "undone" := by rfl) (hN : X.N[i]? = some x := by rfl) (hv : Vis X.env.scope x := by first | exact Or.inl rfl | exact Or.inr (Or.inl rfl) | exact Or.inr (Or.inr rfl)) (hd : (x == ("__debug__" : Str)) = false := by decide) (hcd : (x == ("__classdict__" : Str)) = false := by decide)
    (hs : swapsWith (.List [] lp) (some (.Attribute (.Name x p) f pos')) pos.line X.env = pure false := by rfl) : DSx cls X W L (.Assign [.Attribute (.Name x p) f pos'] (.List [] lp) pos) (zFnew i) := by
  subst hf
  refine ⟨_, ps_fldA (pe_varA i hN hv hd hcd) (pe_lst pa_nil) hs, fun τ F B H σ r D k hp q => ?_⟩
  unfold zFnew at q
  split at q
  · rename_i w l1 l2 l3 e0
    obtain ⟨a, h1, h2⟩ := k.sl i _ e0
    obtain ⟨dx, q1, q2, q3, wv, m1, m2, m3, em, g1, g2, g3, g4⟩ := h2.bo
    cases em
    refine ⟨by rw [sizeLine_eq]; simp, fun y hy => ⟨.ref a, h1, a, bC X.K, dx, [("world", wv), ("row", .ref q1), ("numbers", .ref q2), ("undone", .ref q3)], rfl, ?_, c.cl, c.at3, by simp, ?_⟩⟩
    · have na : a ≠ y := fun z => by subst z; rw [hy] at g1; cases g1
      rw [upd_ne na]
      exact g1
    · exact q B _ σ (Gr.refl _ _) (k.cmnew e0 h1 g1 g2 g3 g4 hy) hp
  · exact q.elim
def noErZ : SX → SX
  | .er _ _ => .no
  | x => x
def hdZ (c : String) (r : Env) : List (String × (Env → SX)) → SX
  | [] => .er c r
  | (x, g) :: hs => if subJ c x then noErZ (g r) else hdZ c r hs
def zTry (Ls : List String) (f : Env → SX) (hs : List (String × (Env → SX))) : Env → SX := fun r => match f r with
  | .er c r' => if c ∈ Ls then hdZ c r' hs else .no
  | x => x
def cSx (K : PySem.W.Frag) (cls : String → Value) (W : WX) (L : List Nat) (g : Env → SX) : TS := fun D σ H => ∃ τ F B r, Ok K F B H σ r ∧ Pin L τ σ ∧ Psx K cls F B D W L τ (g r)
theorem DSxs.pss {sts : List Stmt} {g : Env → SX} (h : DSxs cls X W L sts g) : PSs X sts (cSx X.K cls W L g) := by
  obtain ⟨t, pt, h⟩ := h.run
  exact ⟨fun pins s σ H D I ⟨τ, F, B, r, k, hp, p⟩ => pt.run pins s σ H D I (h τ F B H σ r D k hp p)⟩
structure DHx (cls : String → Value) (X : Cx) (L : List Nat) (Ls : List String) (hds : List ExceptHandler) (hs : List (String × (Env → SX))) : Prop where
  run : ∃ l, HdsOk X hds l ∧ ∀ (τ : Nat → Option (Option V)) (F B H : Hp) (σ : L2.St) (r : Env) (D : Ends) (Wout : WX) (c : String), c ∈ Ls → Ok X.K F B H σ r → Pin L τ σ → Psx X.K cls F B D Wout L τ (hdZ c r hs) → wMany X.K Wout D l (cls c) none σ H
theorem dhx_nil {Ls : List String} : DHx cls X L Ls [] [] := ⟨[], .nil, fun τ F B H σ r D Wout c hc k hp p => p B H σ (Gr.refl _ _) k hp⟩
theorem Psx.noEr {K : PySem.W.Frag} {F B : Hp} {D : Ends} {W W' : WX} {τ : Nat → Option (Option V)} {x : SX} (p : Psx K cls F B D W L τ (noErZ x)) : Psx K cls F B D W' L τ x := by
  cases x with
  | nx r => exact p
  | rt d r => exact p
  | er c r => exact p.elim
  | no => exact p.elim
theorem dhx_cons {Ls : List String} {x : Str} {xn : String} {b₀ : Stmt} {suite : List Stmt} {np pos' : Pos} {hds : List ExceptHandler} {hs : List (String × (Env → SX))} {g : Env → SX} (hm : X.mg x = some (cls xn)) (hx : ∀ c ∈ Ls, PySem.W.exmOne X.K (cls c) (cls xn) = some (subJ c xn))
    (hg : ∀ (a : Addr) (oe : Obj) (pn : List (Addr × Obj)), DSxs cls (X.suite a ((a, oe) :: pn)) (fun _ _ _ _ => False) L (b₀ :: suite) g) (hr : DHx cls X L Ls hds hs) (hgl : Gl X x := by rfl) (hdb : (x == ("__debug__" : Str)) = false := by decide) :
    DHx cls X L Ls (.ExceptHandler (some (.Name x np)) none (b₀ :: suite) pos' :: hds) ((xn, g) :: hs) := by
  obtain ⟨l, ok, h⟩ := hr.run
  refine ⟨(cls xn, fun _ _ _ => cSx X.K cls (fun _ _ _ _ => False) L g) :: l, .cons ⟨hgl, hdb, .inl hm⟩ (fun a oe clsv d pn _ _ => (hg a oe pn).pss) ok, fun τ F B H σ r D Wout c hc k hp p => ⟨subJ c xn, hx c hc, fun e a na => ?_, fun e => ?_⟩⟩
  · unfold hdZ at p
    rw [if_pos e] at p
    exact ⟨τ, F, B, r, k, hp, Psx.noEr p⟩
  · unfold hdZ at p
    rw [if_neg (by rw [e]; exact Bool.false_ne_true)] at p
    exact h τ F B H σ r D Wout c hc k hp p
theorem dx_try {Ls : List String} {body : List Stmt} {h₀ : ExceptHandler} {hds : List ExceptHandler} {f : Env → SX} {hs : List (String × (Env → SX))} {pos : Pos} (tk : Takes X W)
    (hb : ∀ (W : WX) (pn : List (Addr × Obj)) (xe : Value → Shared → Prop), Takes (X.tr pn xe) W → PassesOwn (model X.prog X.w) X.A X.env xe → DSxs cls (X.tr pn xe) W L body f) (hh : DHx cls X L Ls (h₀ :: hds) hs)
    (hst : X.stack = X.env :: X.outer := by rfl) (hf : X.env.frame = some X.env.locals := by rfl) : DSx cls X W L (.Try body (h₀ :: hds) [] [] pos) (zTry Ls f hs) := by
  obtain ⟨l, ok, h⟩ := hh.run
  refine ⟨_, ps_try_many (tb := fun W => cSx X.K cls W L f) hst hf tk (fun W pn xe tk hp => (hb W pn xe tk hp).pss) ok, fun τ F B H σ r D k hp p => ⟨τ, F, B, r, k, hp, ?_⟩⟩
  unfold zTry at p
  cases q : f r with
  | nx r' => rw [q] at p; exact p
  | rt d r' => rw [q] at p; exact p
  | no => rw [q] at p; exact p
  | er c r' =>
    rw [q] at p
    have p : Psx X.K cls F B D W L τ (if c ∈ Ls then hdZ c r' hs else .no) := p
    by_cases hc : c ∈ Ls
    · rw [if_pos hc] at p
      exact fun B' H' σ' gr k' hp' => h τ F B' H' σ' r' D W c hc k' hp' (Psx.gr p gr)
    · rw [if_neg hc] at p
      exact p.elim
end
def PM (K : PySem.W.Frag) (cls : String → Value) (G B : Hp) (p : Addr) (Q : VK) (E : XK) : RM → Prop
  | .ok d c => ∀ B' H' v, Gr G B B' → Le B' H' → Le G H' → CmO K G B' H' p c → Rep K B' v d → Q v H'
  | .er e c => ∀ B' H', Gr G B B' → Le B' H' → Le G H' → CmO K G B' H' p c → E (cls e) none H'
  | .no => False
def spX (K : PySem.W.Frag) (cls : String → Value) (n : Nat) (mm : Cm → List Da → RM) : Sp := fun vs H Q E => ∃ B p c us1 us2 ds1 ds2, vs = us1 ++ .ref p :: us2 ∧ ds1.length = n ∧ Le B H ∧ CmO K (delS H (ftOf H c.k p)) B H p c ∧ RepAll K B us1 ds1 ∧ RepAll K B us2 ds2 ∧ TbAll K (delS H (ftOf H c.k p)) ∧ PM K cls (delS H (ftOf H c.k p)) B p Q E (mm c (ds1 ++ ds2))
structure DefXm (cls : String → Value) (P : Program) (w : World) (K : PySem.W.Frag) (mg : Str → Option Value) (base : Heap) (m : Str) (k : Nat) (mm : Cm → List Da → RM) : Prop where
  ex : ∃ f fd ps, Meth K (bC K) m f ∧ Binds K fd ps [] ∧ FnOk P w K mg base (L2.CX P w) k f fd ps (spX K cls 0 mm)
structure DefXf (cls : String → Value) (P : Program) (w : World) (K : PySem.W.Frag) (mg : Str → Option Value) (base : Heap) (x : Str) (k n : Nat) (mm : Cm → List Da → RM) : Prop where
  ex : ∃ f fd ps, mg x = some (.ref f) ∧ PySem.W.keepIn K (.ref f) = true ∧ Binds K fd ps [] ∧ FnOk P w K mg base (L2.CX P w) k f fd ps (spX K cls n mm)
section
variable {cls : String → Value} {X : Cx} {W : WX}
def xRM (i : Nat) (r : Env) : RM → RX Da
  | .ok d c => .ok d (r.set i (.cm c))
  | .er e c => .er e (r.set i (.cm c))
  | .no => .no
theorem CmO.self {K : PySem.W.Frag} {F B H : Hp} {p : Addr} {c : Cm} (h : CmO K F B H p c) : CmO K (delS H (ftOf H c.k p)) B H p c := ⟨h.ex, fun a ha => ⟨delS_in ha, (h.fb a ha).2⟩⟩
theorem pm_of {F B H : Hp} {σ : L2.St} {r : Env} {i : Nat} {c : Cm} {p : Addr} {Q : VK} {x : RM} (k : Ok X.K F B H σ r) (e : r[i]? = some (.cm c)) (hp : σ[i]? = some (some (.ref p))) (q : Px X.K cls F B σ W (WxE X.K Q) (xRM i r x)) : PM X.K cls (delS H (ftOf H c.k p)) B p Q (WE W σ) x := by
  cases x with
  | ok d c' =>
    intro B' H' v g b l o hv
    obtain ⟨k', g'⟩ := k.cmx e hp g b l o
    exact q B' H' g' k' v hv
  | er d c' =>
    intro B' H' g b l o
    obtain ⟨k', g'⟩ := k.cmx e hp g b l o
    exact q B' H' g' k'
  | no => exact q
theorem pe_methS {CX : CXT} {k : Nat} {C f : Addr} {m : Str} {fd : FuncData} {ps : List Str} {sp : Sp} {E : L2.St → XK} {o e : Expr} {es : List Expr} {ta : TE} {t : TA} {apos pos : Pos} {pl : Sem Bool} (he : PE X o ta) (c : Cls X.K C) (hm : Meth X.K C m f) (F : FnOk X.prog X.w X.K X.mg X.base CX k f fd ps sp) (hr : Room k X.A) (hb : Binds X.K fd ps []) (hx : ∀ σ, PassesAt CX X σ (E σ)) (ha : PA X (e :: es) t)
    (hst : starEach (e :: es) X.env = (false, eval e X.env) :: starEach es X.env := by rfl) (hpl : (backTo pos (starEach es X.env)).any (·.1) = false := by rfl)
    (ht : eval (.Call (.Attribute o m apos) (e :: es) [] pos) X.env = (do
      let ov ← eval o X.env
      standAt apos.atName
      let (f, first) ← holding [ov] (getMethod ov m pl)
      callWith pos f first (backTo pos (starEach (e :: es) X.env)) (backToKw pos (keywordEach [] X.env))) := by rfl) :
    PE X (.Call (.Attribute o m apos) (e :: es) [] pos) (fun σ H Q => ta σ H fun x H1 => ∃ a dx fs, x = .ref a ∧ H1 a = some (.ins C dx fs) ∧ fs.lookup m = none ∧ t σ H1 fun vs H2 => sp (x :: vs) H2 Q (E σ)) := by
  refine ⟨fun pins s σ H Q I h => ?_⟩
  refine PySem.W.methodCall_KW (pl := pl) (thn (he.run pins s σ H _ I h) fun u s1 ⟨x, H1, I1, rx, a, dx, fs, ex, ea, l, q⟩ => ?_) ht
  subst ex
  obtain rfl : u = Value.ref a := rx
  refine getmeth_ok I1 ea c hm l ?_
  refine PySem.W.callWith_K (first := [.ref a]) (h₀ := X.base) I.ok.mod.kin hm.kp (thn (ha.run pos pins s1 σ H1 _ I1 q) fun us s2 ⟨vs, H2, I2, r, q2⟩ => ⟨I2.kIn, ?_⟩) hst hpl
  exact run_fnS (us := .ref a :: us) (vs := .ref a :: vs) F hr hb (hx σ) I2 (.cons rfl r) q2
def xMeth (mm : Cm → List Da → RM) (i : Nat) (fs : Env → R (List Da)) : Env → RX Da := fun r => match r[i]? with
  | some (.cm ⟨.bo, w, ls⟩) => (xR (fs r) r).bind fun ds r1 => xRM i r1 (mm ⟨.bo, w, ls⟩ ds)
  | _ => .no
theorem dex_meth0 (i : Nat) (c : BCls X.K) {x m : Str} {k : Nat} {A0 : Around} {mm : Cm → List Da → RM} {p apos pos : Pos} {pl : Sem Bool} (G : DefXm cls X.prog X.w X.K X.mg X.base m k mm) (hr : Room k A0) (tk : Takes X W) (hA : X.A = A0 := by rfl) (hnf : noField m := by decide +kernel)
    (hN : X.N[i]? = some x := by rfl) (hv : Vis X.env.scope x := by first | exact Or.inl rfl | exact Or.inr (Or.inl rfl) | exact Or.inr (Or.inr rfl)) (hd : (x == ("__debug__" : Str)) = false := by decide) (hcd : (x == ("__classdict__" : Str)) = false := by decide)
    (ht : eval (.Call (.Attribute (.Name x p) m apos) [] [] pos) X.env = (do
      let ov ← eval (.Name x p) X.env
      standAt apos.atName
      let (f, first) ← holding [ov] (getMethod ov m pl)
      callWith pos f first (backTo pos (starEach [] X.env)) (backToKw pos (keywordEach [] X.env))) := by rfl) :
    DEx cls X W (.Call (.Attribute (.Name x p) m apos) [] [] pos) (xMeth mm i aNil) := by
  obtain ⟨f, fd, ps, hm, hb, F⟩ := G.ex
  refine ⟨_, pe_methS0 (pl := pl) (pe_var hN hv hd hcd) c.cl hm F (roomA hr hA) hb (fun σ => passAt tk σ) ht, fun F0 B H σ r Q k q => ?_⟩
  unfold xMeth at q
  split at q
  · rename_i w ls e0
    obtain ⟨a, h1, h2⟩ := k.sl i _ e0
    obtain ⟨dx, q1, q2, q3, wv, l1, l2, l3, rfl, g1, _⟩ := h2.bo
    exact ⟨.ref a, h1, a, dx, _, rfl, g1, lookup_none hnf _ _ _ _, B, a, _, [], [], [], [], rfl, rfl, k.bh, h2.self, .nil, .nil, k.tb.mono (k.cmLe e0 h1), pm_of k e0 h1 q⟩
  · exact q.elim
theorem dex_meth (i : Nat) (c : BCls X.K) {x m : Str} {k : Nat} {A0 : Around} {mm : Cm → List Da → RM} {e : Expr} {es : List Expr} {fs : Env → R (List Da)} {p apos pos : Pos} {pl : Sem Bool} (G : DefXm cls X.prog X.w X.K X.mg X.base m k mm) (hr : Room k A0) (tk : Takes X W) (ha : DA cls X W (e :: es) fs) (hA : X.A = A0 := by rfl) (hnf : noField m := by decide +kernel)
    (hN : X.N[i]? = some x := by rfl) (hv : Vis X.env.scope x := by first | exact Or.inl rfl | exact Or.inr (Or.inl rfl) | exact Or.inr (Or.inr rfl)) (hd : (x == ("__debug__" : Str)) = false := by decide) (hcd : (x == ("__classdict__" : Str)) = false := by decide)
    (hst : starEach (e :: es) X.env = (false, eval e X.env) :: starEach es X.env := by rfl) (hpl : (backTo pos (starEach es X.env)).any (·.1) = false := by rfl)
    (ht : eval (.Call (.Attribute (.Name x p) m apos) (e :: es) [] pos) X.env = (do
      let ov ← eval (.Name x p) X.env
      standAt apos.atName
      let (f, first) ← holding [ov] (getMethod ov m pl)
      callWith pos f first (backTo pos (starEach (e :: es) X.env)) (backToKw pos (keywordEach [] X.env))) := by rfl) :
    DEx cls X W (.Call (.Attribute (.Name x p) m apos) (e :: es) [] pos) (xMeth mm i fs) := by
  obtain ⟨f, fd, ps, hm, hb, F⟩ := G.ex
  obtain ⟨t, pt, h⟩ := ha.run
  refine ⟨_, pe_methS (pl := pl) (pe_var hN hv hd hcd) c.cl hm F (roomA hr hA) hb (fun σ => passAt tk σ) pt hst hpl ht, fun F0 B H σ r Q k q => ?_⟩
  unfold xMeth at q
  split at q
  · rename_i w ls e0
    obtain ⟨a, h1, h2⟩ := k.sl i _ e0
    obtain ⟨dx, q1, q2, q3, wv, l1, l2, l3, rfl, g1, _⟩ := h2.bo
    refine ⟨.ref a, h1, a, dx, _, rfl, g1, lookup_none hnf _ _ _ _, ?_⟩
    refine h F0 B H σ r _ k ((Px.pw (Px.bind q) k).imp fun ds B1 H1 s1 q vs hvs => ?_)
    have k1 := k.stp s1
    exact ⟨B1, a, _, [], vs, [], ds, rfl, rfl, s1.bh, (k1.cmAt e0 h1).self, .nil, hvs, k1.tb.mono (k1.cmLe e0 h1), pm_of k1 e0 h1 q⟩
  · exact q.elim
def xCall0 (mm : Cm → List Da → RM) (i : Nat) (f1 : Env → R Da) : Env → RX Da := fun r => match r[i]? with
  | some (.cm c) => (xR (f1 r) r).bind fun d r1 => xRM i r1 (mm c [d])
  | _ => .no
theorem dex_call0 {x y : Str} {k i : Nat} {A0 : Around} {mm : Cm → List Da → RM} {e1 : Expr} {f1 : Env → R Da} {p py pos : Pos} (G : DefXf cls X.prog X.w X.K X.mg X.base x k 0 mm) (hr : Room k A0) (tk : Takes X W) (h1 : DE cls X W e1 f1) (hA : X.A = A0 := by rfl)
    (hN : X.N[i]? = some y := by rfl) (hv : Vis X.env.scope y := by first | exact Or.inl rfl | exact Or.inr (Or.inl rfl) | exact Or.inr (Or.inr rfl)) (hd : (y == ("__debug__" : Str)) = false := by decide) (hcd : (y == ("__classdict__" : Str)) = false := by decide)
    (hg : Gl X x := by rfl) (hdb : (x == ("__debug__" : Str)) = false := by decide) (he : starEach [.Name y py, e1] X.env = (false, eval (.Name y py) X.env) :: starEach [e1] X.env := by rfl) (hpl : (backTo pos (starEach [e1] X.env)).any (·.1) = false := by rfl)
    (hs2 : starEach [e1] X.env = (false, eval e1 X.env) :: starEach [] X.env := by rfl) :
    DEx cls X W (.Call (.Name x p) [.Name y py, e1] [] pos) (xCall0 mm i f1) := by
  obtain ⟨f, fd, ps, hm, hk, hb, F⟩ := G.ex
  obtain ⟨t1, p1, h1⟩ := h1.run
  refine ⟨_, pe_callS F (roomA hr hA) hg hm hk hb (fun σ => passAt tk σ) (pa_cons (pe_var hN hv hd hcd) (pa_cons p1 pa_nil hs2) he) hdb he hpl, fun F0 B H σ r Q k q => ?_⟩
  unfold xCall0 at q
  split at q
  · rename_i c e0
    obtain ⟨a, ha, h2⟩ := k.sl i _ e0
    refine ⟨.ref a, ha, ?_⟩
    refine h1 F0 B H σ r _ k ((Px.pw (Px.bind q) k).imp fun d B1 H1 s1 q v hv => ?_)
    have k1 := k.stp s1
    exact ⟨B1, a, c, [], [v], [], [d], rfl, rfl, s1.bh, (k1.cmAt e0 ha).self, .nil, .cons hv .nil, k1.tb.mono (k1.cmLe e0 ha), pm_of k1 e0 ha q⟩
  · exact q.elim
def xCall1 (mm : Cm → List Da → RM) (i : Nat) (f1 f2 : Env → R Da) : Env → RX Da := fun r => (xR (f1 r) r).bind fun d1 r1 => match r1[i]? with
  | some (.cm c) => (xR (f2 r1) r1).bind fun d2 r2 => xRM i r2 (mm c [d1, d2])
  | _ => .no
theorem dex_call1 {x y : Str} {k i : Nat} {A0 : Around} {mm : Cm → List Da → RM} {e1 e2 : Expr} {f1 f2 : Env → R Da} {p py pos : Pos} (G : DefXf cls X.prog X.w X.K X.mg X.base x k 1 mm) (hr : Room k A0) (tk : Takes X W) (h1 : DE cls X W e1 f1) (h2 : DE cls X W e2 f2) (hA : X.A = A0 := by rfl)
    (hN : X.N[i]? = some y := by rfl) (hv : Vis X.env.scope y := by first | exact Or.inl rfl | exact Or.inr (Or.inl rfl) | exact Or.inr (Or.inr rfl)) (hd : (y == ("__debug__" : Str)) = false := by decide) (hcd : (y == ("__classdict__" : Str)) = false := by decide)
    (hg : Gl X x := by rfl) (hdb : (x == ("__debug__" : Str)) = false := by decide) (he : starEach [e1, .Name y py, e2] X.env = (false, eval e1 X.env) :: starEach [.Name y py, e2] X.env := by rfl) (hpl : (backTo pos (starEach [.Name y py, e2] X.env)).any (·.1) = false := by rfl)
    (hs2 : starEach [.Name y py, e2] X.env = (false, eval (.Name y py) X.env) :: starEach [e2] X.env := by rfl) (hs3 : starEach [e2] X.env = (false, eval e2 X.env) :: starEach [] X.env := by rfl) :
    DEx cls X W (.Call (.Name x p) [e1, .Name y py, e2] [] pos) (xCall1 mm i f1 f2) := by
  obtain ⟨f, fd, ps, hm, hk, hb, F⟩ := G.ex
  obtain ⟨t1, p1, h1⟩ := h1.run
  obtain ⟨t2, p2, h2⟩ := h2.run
  refine ⟨_, pe_callS F (roomA hr hA) hg hm hk hb (fun σ => passAt tk σ) (pa_cons p1 (pa_cons (pe_var hN hv hd hcd) (pa_cons p2 pa_nil hs3) hs2) he) hdb he hpl, fun F0 B H σ r Q k q => ?_⟩
  refine h1 F0 B H σ r _ k ((Px.pw (Px.bind q) k).imp fun d1 B1 H1 s1 q v1 hv1 => ?_)
  have k1 := k.stp s1
  split at q
  · rename_i c e0
    obtain ⟨a, ha, _⟩ := k1.sl i _ e0
    refine ⟨.ref a, ha, ?_⟩
    refine h2 F0 B1 H1 σ r _ k1 ((Px.pw (Px.bind q) k1).imp fun d2 B2 H2 s2 q v2 hv2 => ?_)
    have k2 := k1.stp s2
    exact ⟨B2, a, c, [v1], [v2], [d1], [d2], rfl, rfl, s2.bh, (k2.cmAt e0 ha).self, .cons (hv1.mono s2.gr.1) .nil, .cons hv2 .nil, k2.tb.mono (k2.cmLe e0 ha), pm_of k2 e0 ha q⟩
  · exact q.elim
end
def envX (n : Nat) (c : Cm) (ds : List Da) : Env := .cm c :: (ds.map Sl.fz ++ List.replicate (n - (ds.length + 1)) .un)
def outX : SX → RM
  | .nx r => (match r[(0 : Nat)]? with
    | some (.cm c) => .ok .none c
    | _ => .no)
  | .rt d r => (match r[(0 : Nat)]? with
    | some (.cm c) => .ok d c
    | _ => .no)
  | .er e r => (match r[(0 : Nat)]? with
    | some (.cm c) => .er e c
    | _ => .no)
  | .no => .no
def fnX (np n : Nat) (g : Env → SX) : Cm → List Da → RM := fun c ds => if ds.length + 1 = np then outX (g (envX n c ds)) else .no
theorem ok_startX {K : PySem.W.Frag} {G B H : Hp} {N : List Str} {x : Addr} {c : Cm} {vs : List V} {ds : List Da} (l : Le B H) (lg : Le G H) (hb : CmO K G B H x c) (h : RepAll K B vs ds) (tb : TbAll K G) : Ok K G B H (start N (.ref x :: vs)) (envX N.length c ds) := by
  have hl := h.length
  have shape : ∀ (i : Nat) (s : Sl), (envX N.length c ds)[i]? = some s → s = .un ∨ (i = 0 ∧ s = .cm c) ∨ ∃ j d, i = j + 1 ∧ s = .fz d ∧ (ds.map Sl.fz)[j]? = some (.fz d) ∧ j < ds.length := by
    intro i s e
    unfold envX at e
    cases i with
    | zero =>
      cases e
      exact .inr (.inl ⟨rfl, rfl⟩)
    | succ j =>
      rw [List.getElem?_cons_succ] at e
      by_cases hi : j < ds.length
      · rw [List.getElem?_append_left (by rw [List.length_map]; exact hi)] at e
        rw [List.getElem?_map, List.getElem?_eq_getElem hi] at e
        cases e
        refine .inr (.inr ⟨j, ds[j], rfl, rfl, ?_, hi⟩)
        rw [List.getElem?_map, List.getElem?_eq_getElem hi]
        rfl
      · rw [List.getElem?_append_right (by rw [List.length_map]; omega)] at e
        obtain ⟨h1, h2⟩ := List.getElem?_eq_some_iff.mp e
        rw [List.getElem_replicate] at h2
        exact .inl h2.symm
  refine ⟨l, lg, ?_, fun i s e => ?_, fun i j d1 d2 q ne e1 e2 h1 h2 => ?_, tb, fun i j a ne f => ?_⟩
  · unfold L2.start envX
    simp only [List.length_append, List.length_map, List.length_cons, List.length_replicate, hl]
    omega
  · rcases shape i s e with q | ⟨q1, q2⟩ | ⟨j, d, q0, q, e1, hi⟩
    · subst q
      trivial
    · subst q1 q2
      exact ⟨x, rfl, hb⟩
    · subst q q0
      obtain ⟨v, h1, h2⟩ := repAll_get h e1
      refine ⟨v, ?_, h2⟩
      unfold L2.start
      rw [List.map_cons, List.cons_append, List.getElem?_cons_succ, List.getElem?_append_left (by rw [List.length_map]; omega)]
      exact h1
  · rcases shape i _ e1 with z | ⟨_, z⟩ | ⟨_, d, _, z, _, _⟩
    · cases z
    · cases z
    · cases z
  · obtain ⟨c1, p1, e1, _⟩ := f
    have hi : i = 0 := by
      rcases shape i _ e1 with z | ⟨z, _⟩ | ⟨_, d, _, z, _, _⟩
      · cases z
      · exact z
      · cases z
    refine ⟨fun ⟨c2, p2, e2, _⟩ => ?_, fun ⟨d2, e2, _⟩ => ?_⟩
    · rcases shape j _ e2 with z | ⟨z, _⟩ | ⟨_, d, _, z, _, _⟩
      · cases z
      · exact ne (hi.trans z.symm)
      · cases z
    · rcases shape j _ e2 with z | ⟨_, z⟩ | ⟨_, d, _, z, _, _⟩ <;> cases z
theorem runX {cls : String → Value} {X : Cx} {K : PySem.W.Frag} {N ps : List Str} {g : Env → SX} {body : List Stmt} {H B : Hp} {p : Addr} {c : Cm} {us : List V} {ds : List Da} {Q : VK} {E : XK} {t : TS} {D : Ends} (eK : X.K = K)
    (hd : ∀ (τ : Nat → Option (Option V)) (F B H : Hp) (σ : L2.St) (r : Env) (D : Ends), Ok X.K F B H σ r → Pin [0] τ σ → Psx X.K cls F B D (fun c d _ H => E c d H) [0] τ (g r) → t D σ H)
    (hD1 : ∀ σ H, Q .non H → D.nx σ H) (hD2 : ∀ v H, Q v H → D.rt v H)
    (l : Le B H) (cm : CmO K (delS H (ftOf H c.k p)) B H p c) (r2 : RepAll K B us ds) (tb : TbAll K (delS H (ftOf H c.k p))) (h : PM K cls (delS H (ftOf H c.k p)) B p Q E (fnX ps.length N.length g c ds)) : t D (start N (.ref p :: us)) H := by
  subst eK
  have k0 := ok_startX (N := N) l (delS_le _ _) cm r2 tb
  refine hd (fun _ => some (some (.ref p))) _ B H _ _ _ k0 (fun i hi => by rw [List.mem_singleton.mp hi]; rfl) ?_
  unfold fnX at h
  by_cases hl : ds.length + 1 = ps.length
  · rw [if_pos hl] at h
    have fin : ∀ (B' H' : Hp) (σ' : L2.St) (r' : Env) (c' : Cm), Ok X.K (delS H (ftOf H c.k p)) B' H' σ' r' → Pin [0] (fun _ => some (some (.ref p))) σ' → r'[0]? = some (.cm c') → CmO X.K (delS H (ftOf H c.k p)) B' H' p c' := fun B' H' σ' r' c' k' hp e => k'.cmAt e (hp 0 List.mem_cons_self)
    cases q : g (envX N.length c ds) with
    | nx r' =>
      rw [q] at h
      unfold outX at h
      intro B' H' σ' gr k' hp
      dsimp only at h
      split at h
      · rename_i c' e
        exact hD1 _ _ (h B' H' _ gr k'.bh k'.fh (fin B' H' σ' r' c' k' hp e) .non)
      · exact h.elim
    | rt d r' =>
      rw [q] at h
      unfold outX at h
      intro B' H' σ' v gr k' hp hv
      dsimp only at h
      split at h
      · rename_i c' e
        exact hD2 _ _ (h B' H' v gr k'.bh k'.fh (fin B' H' σ' r' c' k' hp e) hv)
      · exact h.elim
    | er d r' =>
      rw [q] at h
      unfold outX at h
      intro B' H' σ' gr k' hp
      dsimp only at h
      split at h
      · rename_i c' e
        exact h B' H' gr k'.bh k'.fh (fin B' H' σ' r' c' k' hp e)
      · exact h.elim
    | no =>
      rw [q] at h
      exact h.elim
  · rw [if_neg hl] at h
    exact h.elim
theorem mkDefXm {cls : String → Value} {P : Program} {w : World} {K : PySem.W.Frag} {mg : Str → Option Value} {base : Heap} {m qual : Str} {st : Stmt} {N ps : List Str} {k : Nat} {g : Env → SX} (R0 : RawB K m qual st) (S : FnScope N ps (defScope st))
    (hb : ∀ (kV doc pm : Value) (an : Option Addr) (cdv ct : Value) (us : List Value), us.length = ps.length → bindArgs (PySem.W.fnOf m qual (defArgs st) (defBody st) (defScope st) .none kV doc pm an cdv ct) ⟨us, []⟩ = pure (ps.zip us))
    (body : ∀ (X : Cx) (E : XK) (f : Addr) (cdv : Value) (A : Around) (outer : List PySem.Env) (s : Shared) (H : Hp), X = cxOf (L2.CX P w) P w K mg base N qual (defScope st) f cdv A outer s H E → Room k X.A → Takes X (fun c d _ H => E c d H) → PassesOwn (model X.prog X.w) X.A X.env X.xe →
      DSxs cls X (fun c d _ H => E c d H) [0] (defBody st) g) : DefXm cls P w K mg base m (k + 1) (fnX ps.length N.length g) := by
  obtain ⟨f, fd, F, hm⟩ := R0.ex
  refine ⟨f, fd, ps, hm, F.binds hb, F.okX S (fun vs H Q E h => ?_) (fun cdv A outer s H vs Q E hr h => ?_)⟩
  · obtain ⟨B, p, c, us1, us2, ds1, ds2, rfl, hn, l, cm, r1, r2, tb, h⟩ := h
    obtain rfl : ds1 = [] := List.length_eq_zero_iff.mp hn
    cases r1
    rw [List.nil_append, List.length_cons, r2.length]
    unfold fnX at h
    by_cases hl : ds2.length + 1 = ps.length
    · exact hl
    · rw [List.nil_append, if_neg hl] at h
      exact h.elim
  · obtain ⟨B, p, c, us1, us2, ds1, ds2, rfl, hn, l, cm, r1, r2, tb, h⟩ := h
    obtain rfl : ds1 = [] := List.length_eq_zero_iff.mp hn
    cases r1
    have tk : Takes (cxOf (L2.CX P w) P w K mg base N qual (defScope st) f cdv A outer s H E) (fun c d _ H => E c d H) := takes_of rfl rfl rfl rfl
    have hp : PassesOwn (model (cxOf (L2.CX P w) P w K mg base N qual (defScope st) f cdv A outer s H E).prog (cxOf (L2.CX P w) P w K mg base N qual (defScope st) f cdv A outer s H E).w) (cxOf (L2.CX P w) P w K mg base N qual (defScope st) f cdv A outer s H E).A (cxOf (L2.CX P w) P w K mg base N qual (defScope st) f cdv A outer s H E).env (cxOf (L2.CX P w) P w K mg base N qual (defScope st) f cdv A outer s H E).xe := passes_of rfl
    obtain ⟨t, pt, hd⟩ := (body _ E f cdv A outer s H rfl hr tk hp).run
    exact ⟨t, pt, runX (Q := Q) (body := defBody st) rfl hd (fun _ _ q => q) (fun _ _ q => q) l cm r2 tb h⟩
theorem mkDefXf {cls : String → Value} {P : Program} {w : World} {K : PySem.W.Frag} {mg : Str → Option Value} {base : Heap} {x : Str} {st : Stmt} {N ps : List Str} {k : Nat} {g : Env → SX} (R0 : Raw K mg x st) (S : FnScope N ps (defScope st))
    (hb : ∀ (kV doc pm : Value) (an : Option Addr) (cdv ct : Value) (us : List Value), us.length = ps.length → bindArgs (PySem.W.fnOf x x (defArgs st) (defBody st) (defScope st) .none kV doc pm an cdv ct) ⟨us, []⟩ = pure (ps.zip us))
    (body : ∀ (X : Cx) (E : XK) (f : Addr) (cdv : Value) (A : Around) (outer : List PySem.Env) (s : Shared) (H : Hp), X = cxOf (L2.CX P w) P w K mg base N x (defScope st) f cdv A outer s H E → Room k X.A → Takes X (fun c d _ H => E c d H) → PassesOwn (model X.prog X.w) X.A X.env X.xe →
      DSxs cls X (fun c d _ H => E c d H) [0] (defBody st) g) : DefXf cls P w K mg base x (k + 1) 0 (fnX ps.length N.length g) := by
  obtain ⟨f, fd, F, hm⟩ := R0.ex
  refine ⟨f, fd, ps, hm, F.kp, F.binds hb, F.okX S (fun vs H Q E h => ?_) (fun cdv A outer s H vs Q E hr h => ?_)⟩
  · obtain ⟨B, p, c, us1, us2, ds1, ds2, rfl, hn, l, cm, r1, r2, tb, h⟩ := h
    obtain rfl : ds1 = [] := List.length_eq_zero_iff.mp hn
    cases r1
    rw [List.nil_append, List.length_cons, r2.length]
    unfold fnX at h
    by_cases hl : ds2.length + 1 = ps.length
    · exact hl
    · rw [List.nil_append, if_neg hl] at h
      exact h.elim
  · obtain ⟨B, p, c, us1, us2, ds1, ds2, rfl, hn, l, cm, r1, r2, tb, h⟩ := h
    obtain rfl : ds1 = [] := List.length_eq_zero_iff.mp hn
    cases r1
    have tk : Takes (cxOf (L2.CX P w) P w K mg base N x (defScope st) f cdv A outer s H E) (fun c d _ H => E c d H) := takes_of rfl rfl rfl rfl
    have hp : PassesOwn (model (cxOf (L2.CX P w) P w K mg base N x (defScope st) f cdv A outer s H E).prog (cxOf (L2.CX P w) P w K mg base N x (defScope st) f cdv A outer s H E).w) (cxOf (L2.CX P w) P w K mg base N x (defScope st) f cdv A outer s H E).A (cxOf (L2.CX P w) P w K mg base N x (defScope st) f cdv A outer s H E).env (cxOf (L2.CX P w) P w K mg base N x (defScope st) f cdv A outer s H E).xe := passes_of rfl
    obtain ⟨t, pt, hd⟩ := (body _ E f cdv A outer s H rfl hr tk hp).run
    exact ⟨t, pt, runX (Q := Q) (body := defBody st) rfl hd (fun _ _ q => q) (fun _ _ q => q) l cm r2 tb h⟩
end Mi

namespace Mi
open PySem PySem.Spec PyProof.Rows L2
def spJ (K : PySem.W.Frag) (cls : String → Value) (m : List Da → R Da) : Sp := fun vs H Q E => ∃ B x dx wv sv W S, vs = [.ref x, wv, sv] ∧ Le B H ∧ B x = none ∧ H x = some (.ins (bC K) dx []) ∧ Rep K B wv W ∧ Rep K B sv S ∧ TbAll K H ∧ match m [W, S] with
  | .ok _ => ∀ B' H', Gr (delH H x) B B' → Le B' H' → Le (delH H x) H' → CmO K (delH H x) B' H' x ⟨.bo, W, [[S], [], []]⟩ → Q .non H'
  | .er c => ∀ H', Le H H' → E (cls c) none H'
  | .no => False
structure DefJ (cls : String → Value) (P : Program) (w : World) (K : PySem.W.Frag) (mg : Str → Option Value) (base : Heap) (k : Nat) (m : List Da → R Da) : Prop where
  ex : ∃ f fd ps, mg "Board" = some (.ref (bC K)) ∧ Mk K (bC K) f ∧ Binds K fd ps [] ∧ FnOk P w K mg base (L2.CX P w) k f fd ps (spJ K cls m)
theorem mkDefJ {cls : String → Value} {P : Program} {w : World} {K : PySem.W.Frag} {mg : Str → Option Value} {base : Heap} {st s0 s1 s2 s3 s4 : Stmt} {k : Nat} {m : List Da → R Da} (c : BCls K) (R0 : RawI K mg st) (S : FnScope iN iN (defScope st))
    (hb : ∀ (kV doc pm : Value) (an : Option Addr) (cdv ct : Value) (us : List Value), us.length = iN.length → bindArgs (PySem.W.fnOf "__init__" "Board.__init__" (defArgs st) (defBody st) (defScope st) .none kV doc pm an cdv ct) ⟨us, []⟩ = pure (iN.zip us))
    (eb : defBody st = [s0, s1, s2, s3, s4])
    (body : ∀ (X : Cx) (E : XK) (f : Addr) (cdv : Value) (A : Around) (outer : List PySem.Env) (s : Shared) (H : Hp), X = cxOf (L2.CX P w) P w K mg base iN "Board.__init__" (defScope st) f cdv A outer s H E → Room k X.A → Takes X (fun c d _ H => E c d H) →
      (∃ e0 p0, s0 = .Expr e0 p0 ∧ swapsWith e0 none p0.line X.env = pure false ∧ DE cls X (fun c d _ H => E c d H) e0 (eCall m (aCons (eVar 1) (aCons (eVar 2) aNil)))) ∧ PS X s1 (sFld X.K (tVar 0) (tVar 1) "world") ∧ PS X s2 (sFld X.K (tVar 0) (tLst (tCons (tVar 2) tNil)) "row") ∧ PS X s3 (sFld X.K (tVar 0) (tLst tNil) "numbers") ∧ PS X s4 (sFld X.K (tVar 0) (tLst tNil) "undone")) : DefJ cls P w K mg base (k + 1) m := by
  obtain ⟨f, fd, F, hmk, hmg⟩ := R0.ex
  refine ⟨f, fd, iN, hmg, hmk, F.binds hb, F.okX S (fun vs H Q E h => ?_) (fun cdv A outer s H vs Q E hr h => ?_)⟩
  · obtain ⟨B, x, dx, wv, sv, W, S', rfl, _⟩ := h
    rfl
  · obtain ⟨B, x, dx, wv, sv, W, S', rfl, l, bx, hx, r1, r2, tb, h⟩ := h
    have tk : Takes (cxOf (L2.CX P w) P w K mg base iN "Board.__init__" (defScope st) f cdv A outer s H E) (fun c d _ H => E c d H) := takes_of rfl rfl rfl rfl
    obtain ⟨⟨e0, p0, rfl, hs0, hd⟩, q1, q2, q3, q4⟩ := body _ E f cdv A outer s H rfl hr tk
    obtain ⟨t, pt, hd⟩ := hd.run
    rw [eb]
    refine ⟨_, pss_cons (ps_expr pt hs0) (pss_cons q1 (pss_cons q2 (pss_cons q3 (pss_one q4)))), ?_⟩
    refine hd H B H _ [.pn (.ref x), .fz W, .fz S'] _ (ok_startI l r1 r2 tb) ?_
    show Pw cls B H _ _ _ (m [W, S'])
    cases em : m [W, S'] with
    | er e =>
      rw [em] at h
      exact fun B1 H1 s1 => h H1 s1.hh
    | no =>
      rw [em] at h
      exact h.elim
    | ok d =>
      rw [em] at h
      intro B1 H1 s1 v0 hv0
      have bx1 : B1 x = none := by rw [s1.gr.2.1 x _ hx]; exact bx
      have hx1 : H1 x = some (.ins (bC K) dx []) := s1.hh.at hx
      have nx1 : ∀ c q, H1 x ≠ some (LamX.CodeO c q) := nc_plain hx1
      -- self.world
      refine ⟨wv, rfl, .ref x, rfl, x, bC K, dx, [], rfl, hx1, c.cl, c.at0, by decide, ?_⟩
      have hx2 : upd H1 x (.ins (bC K) dx (putF "world" wv [])) x = some (.ins (bC K) dx [("world", wv)]) := upd_same
      generalize hH2 : upd H1 x (.ins (bC K) dx (putF "world" wv [])) = H2 at hx2 ⊢
      have b2 : Le B1 H2 := by rw [← hH2]; exact s1.bh.put bx1 nx1
      have f2 : Le (delH H x) H2 := by rw [← hH2]; exact ((delH_le H x).trans s1.hh).put delH_p nx1
      have d2 : ∀ p, H2 p = none → H p = none ∧ p ≠ x := fun p hp => by
        have np : p ≠ x := fun z => by rw [z, hx2] at hp; cases hp
        refine ⟨s1.hh.back ?_, np⟩
        rw [← hH2, upd_ne np] at hp
        exact hp
      -- self.row
      refine ⟨sv, rfl, by rw [sizeLine_eq]; simp, fun p hp => ⟨.ref x, rfl, x, bC K, dx, [("world", wv)], rfl, ?_, c.cl, c.at1, by simp, ?_⟩⟩
      · rw [upd_ne (Ne.symm (d2 p hp).2)]
        exact hx2
      have hp3 : upd (upd H2 p (.lst [sv])) x (.ins (bC K) dx (putF "row" (.ref p) [("world", wv)])) p = some (.lst [sv]) := by rw [upd_ne (d2 p hp).2, upd_same]
      have hx3 : upd (upd H2 p (.lst [sv])) x (.ins (bC K) dx (putF "row" (.ref p) [("world", wv)])) x = some (.ins (bC K) dx [("world", wv), ("row", .ref p)]) := upd_same
      have d3 : ∀ a, upd (upd H2 p (.lst [sv])) x (.ins (bC K) dx (putF "row" (.ref p) [("world", wv)])) a = none → H2 a = none ∧ a ≠ p := fun a ha => by
        have na : a ≠ x := fun z => by rw [z, hx3] at ha; cases ha
        have np : a ≠ p := fun z => by rw [z, hp3] at ha; cases ha
        rw [upd_ne na, upd_ne np] at ha
        exact ⟨ha, np⟩
      have xp : upd H2 p (.lst [sv]) x = some (.ins (bC K) dx [("world", wv)]) := by rw [upd_ne (Ne.symm (d2 p hp).2)]; exact hx2
      have c3 : Le B1 (upd (upd H2 p (.lst [sv])) x (.ins (bC K) dx (putF "row" (.ref p) [("world", wv)]))) := (b2.trans (Le.new hp)).put bx1 (nc_plain xp)
      have f3 : Le (delH H x) (upd (upd H2 p (.lst [sv])) x (.ins (bC K) dx (putF "row" (.ref p) [("world", wv)]))) := (f2.trans (Le.new hp)).put delH_p (nc_plain xp)
      generalize upd (upd H2 p (.lst [sv])) x (.ins (bC K) dx (putF "row" (.ref p) [("world", wv)])) = H3 at hp3 hx3 d3 c3 f3 ⊢
      -- self.numbers
      refine ⟨by rw [sizeLine_eq]; simp, fun p2 hp2 => ⟨.ref x, rfl, x, bC K, dx, [("world", wv), ("row", .ref p)], rfl, ?_, c.cl, c.at2, by simp, ?_⟩⟩
      · rw [upd_ne (Ne.symm (d2 p2 (d3 p2 hp2).1).2)]
        exact hx3
      have nx2 : p2 ≠ x := (d2 p2 (d3 p2 hp2).1).2
      have hq4 : upd (upd H3 p2 (.lst [])) x (.ins (bC K) dx (putF "numbers" (.ref p2) [("world", wv), ("row", .ref p)])) p2 = some (.lst []) := by rw [upd_ne nx2, upd_same]
      have hp4 : upd (upd H3 p2 (.lst [])) x (.ins (bC K) dx (putF "numbers" (.ref p2) [("world", wv), ("row", .ref p)])) p = some (.lst [sv]) := by rw [upd_ne (d2 p hp).2, upd_ne (Ne.symm (d3 p2 hp2).2)]; exact hp3
      have hx4 : upd (upd H3 p2 (.lst [])) x (.ins (bC K) dx (putF "numbers" (.ref p2) [("world", wv), ("row", .ref p)])) x = some (.ins (bC K) dx [("world", wv), ("row", .ref p), ("numbers", .ref p2)]) := upd_same
      have d4 : ∀ a, upd (upd H3 p2 (.lst [])) x (.ins (bC K) dx (putF "numbers" (.ref p2) [("world", wv), ("row", .ref p)])) a = none → H3 a = none ∧ a ≠ p2 := fun a ha => by
        have na : a ≠ x := fun z => by rw [z, hx4] at ha; cases ha
        have np : a ≠ p2 := fun z => by rw [z, hq4] at ha; cases ha
        rw [upd_ne na, upd_ne np] at ha
        exact ⟨ha, np⟩
      have xp3 : upd H3 p2 (.lst []) x = some (.ins (bC K) dx [("world", wv), ("row", .ref p)]) := by rw [upd_ne (Ne.symm nx2)]; exact hx3
      have c4 : Le B1 (upd (upd H3 p2 (.lst [])) x (.ins (bC K) dx (putF "numbers" (.ref p2) [("world", wv), ("row", .ref p)]))) := (c3.trans (Le.new hp2)).put bx1 (nc_plain xp3)
      have f4 : Le (delH H x) (upd (upd H3 p2 (.lst [])) x (.ins (bC K) dx (putF "numbers" (.ref p2) [("world", wv), ("row", .ref p)]))) := (f3.trans (Le.new hp2)).put delH_p (nc_plain xp3)
      generalize upd (upd H3 p2 (.lst [])) x (.ins (bC K) dx (putF "numbers" (.ref p2) [("world", wv), ("row", .ref p)])) = H4 at hq4 hp4 hx4 d4 c4 f4 ⊢
      -- self.undone
      refine ⟨by rw [sizeLine_eq]; simp, fun p3 hp3' => ⟨.ref x, rfl, x, bC K, dx, [("world", wv), ("row", .ref p), ("numbers", .ref p2)], rfl, ?_, c.cl, c.at3, by simp, ?_⟩⟩
      · rw [upd_ne (Ne.symm (d2 p3 (d3 p3 (d4 p3 hp3').1).1).2)]
        exact hx4
      have nx3 : p3 ≠ x := (d2 p3 (d3 p3 (d4 p3 hp3').1).1).2
      have n32 : p3 ≠ p2 := (d4 p3 hp3').2
      have n31 : p3 ≠ p := (d3 p3 (d4 p3 hp3').1).2
      have n21 : p2 ≠ p := (d3 p2 hp2).2
      have npx : p ≠ x := (d2 p hp).2
      have xp4 : upd H4 p3 (.lst []) x = some (.ins (bC K) dx [("world", wv), ("row", .ref p), ("numbers", .ref p2)]) := by rw [upd_ne (Ne.symm nx3)]; exact hx4
      have f5 : Le (delH H x) (upd (upd H4 p3 (.lst [])) x (.ins (bC K) dx (putF "undone" (.ref p3) [("world", wv), ("row", .ref p), ("numbers", .ref p2)]))) := (f4.trans (Le.new hp3')).put delH_p (nc_plain xp4)
      have c5 : Le B1 (upd (upd H4 p3 (.lst [])) x (.ins (bC K) dx (putF "undone" (.ref p3) [("world", wv), ("row", .ref p), ("numbers", .ref p2)]))) := (c4.trans (Le.new hp3')).put bx1 (nc_plain xp4)
      have z1 : H2 p = none := hp
      have z2 : H2 p2 = none := (d3 p2 hp2).1
      have z3 : H2 p3 = none := (d3 p3 (d4 p3 hp3').1).1
      have ho : upd (upd H4 p3 (.lst [])) x (.ins (bC K) dx (putF "undone" (.ref p3) [("world", wv), ("row", .ref p), ("numbers", .ref p2)])) x = some (.ins (bC K) dx [("world", wv), ("row", .ref p), ("numbers", .ref p2), ("undone", .ref p3)]) := upd_same
      have hd0 : Hd K B1 .bo W [p, p2, p3] (.ins (bC K) dx [("world", wv), ("row", .ref p), ("numbers", .ref p2), ("undone", .ref p3)]) := .bo (r1.mono s1.gr.1)
      refine h B1 _ (s1.gr.weak (delH_le H x)) c5 f5 ⟨⟨_, [p, p2, p3], ho, hd0, .cons ?_ (.cons (r2.mono s1.gr.1) .nil) (.cons ?_ .nil (.cons ?_ .nil .nil)), ?_⟩, fun a ha => ?_⟩
      · rw [upd_ne npx, upd_ne (Ne.symm n31)]; exact hp4
      · rw [upd_ne nx2, upd_ne (Ne.symm n32)]; exact hq4
      · rw [upd_ne nx3, upd_same]
      · simp only [List.nodup_cons, List.mem_cons, List.not_mem_nil, or_false, not_or, List.nodup_nil, not_false_eq_true, and_true]
        exact ⟨⟨Ne.symm npx, Ne.symm nx2, Ne.symm nx3⟩, ⟨Ne.symm n21, Ne.symm n31⟩, Ne.symm n32⟩
      · rw [ft_at ho hd0] at ha
        simp only [List.mem_cons, List.not_mem_nil, or_false] at ha
        rcases ha with rfl | rfl | rfl | rfl
        · exact ⟨delH_p, bx1⟩
        · exact ⟨(delH_le H x).back (d2 _ z1).1, b2.back z1⟩
        · exact ⟨(delH_le H x).back (d2 _ z2).1, b2.back z2⟩
        · exact ⟨(delH_le H x).back (d2 _ z3).1, b2.back z3⟩
section
variable {cls : String → Value} {X : Cx} {W : WX}
theorem Ok.setC {K : PySem.W.Frag} {F B H0 H B' : Hp} {σ : L2.St} {r : Env} {i : Nat} {x : Addr} {c : Cm} (k : Ok K F B H0 σ r) (s : Stp B H0 B' H) (h : CmO K H0 B' H x c) : Ok K F B' H (σ.set i (some (.ref x))) (r.set i (.cm c)) := by
  have k' := k.stp s
  have new : ∀ a ∈ ftOf H c.k x, H0 a = none := fun a ha => (h.fb a ha).1
  have hF : CmO K F B' H x c := h.weak fun a ha => k.fh.back ha
  have fto : ∀ j a, j ≠ i → FtC H (σ.set i (some (.ref x))) (r.set i (.cm c)) j a → FtC H σ r j a := fun j a nj f => f.to (fun d z => by rw [List.getElem?_set_ne (Ne.symm nj)] at z; exact z) (fun d z => List.getElem?_set_ne (Ne.symm nj)) fun _ _ => rfl
  have oto : ∀ j a, Own1 (σ.set i (some (.ref x))) (r.set i (.cm c)) j a → j ≠ i ∧ Own1 σ r j a := fun j a ⟨d, e1, e2⟩ => by
    rcases set_is e1 with ⟨_, z⟩ | ⟨z, e1⟩
    · cases z
    · rw [List.getElem?_set_ne z] at e2
      exact ⟨Ne.symm z, d, e1, e2⟩
  have self : ∀ a, FtC H (σ.set i (some (.ref x))) (r.set i (.cm c)) i a → H0 a = none := fun a ⟨c2, p2, e1, e2, ha⟩ => by
    rcases set_is e1 with ⟨_, z⟩ | ⟨z, _⟩
    · cases z
      rcases set_is e2 with ⟨_, z⟩ | ⟨z, _⟩
      · cases z
        exact new a ha
      · exact absurd rfl z
    · exact absurd rfl z
  refine ⟨k'.bh, k'.fh, by rw [List.length_set, List.length_set]; exact k.len, fun j s' e => ?_, fun j l d1 d2 p ne e1 e2 h1 h2 => ?_, k.tb, fun j m a ne f => ?_⟩
  · by_cases hj : i = j
    · subst hj
      by_cases hl : i < r.length
      · rw [List.getElem?_set_self hl] at e
        cases e
        exact ⟨x, List.getElem?_set_self (by rw [k.len]; exact hl), hF⟩
      · rw [List.getElem?_eq_none (by rw [List.length_set]; omega)] at e
        cases e
    · rw [List.getElem?_set_ne hj] at e
      have q := k'.sl j s' e
      cases s' with
      | un => trivial
      | pn v =>
        have q : σ[j]? = some (some v) := q
        show (σ.set i _)[j]? = _
        rw [List.getElem?_set_ne hj]
        exact q
      | bd b => obtain ⟨v, a, b⟩ := q; exact ⟨v, by rw [List.getElem?_set_ne hj]; exact a, b⟩
      | cm b => obtain ⟨v, a, b⟩ := q; exact ⟨v, by rw [List.getElem?_set_ne hj]; exact a, b⟩
      | fz d => obtain ⟨v, a, b⟩ := q; exact ⟨v, by rw [List.getElem?_set_ne hj]; exact a, b⟩
      | ow d => obtain ⟨v, a, b⟩ := q; exact ⟨v, by rw [List.getElem?_set_ne hj]; exact a, b⟩
  · obtain ⟨_, y1, e1, h1⟩ := oto j p ⟨d1, e1, h1⟩
    obtain ⟨_, y2, e2, h2⟩ := oto l p ⟨d2, e2, h2⟩
    exact k.inj j l y1 y2 p ne e1 e2 h1 h2
  · by_cases hj : j = i
    · subst hj
      have z := self a f
      refine ⟨fun f2 => k.ftn s m a (fto m a (Ne.symm ne) f2) z, fun o2 => ?_⟩
      obtain ⟨_, y, e1, e2⟩ := oto m a o2
      exact owned_in k e1 e2 z
    · have f1 := fto j a hj f
      refine ⟨fun f2 => ?_, fun o2 => (k'.ci j m a ne f1).2 (oto m a o2).2⟩
      by_cases hm : m = i
      · subst hm
        exact k.ftn s j a f1 (self a f2)
      · exact (k'.ci j m a ne f1).1 (fto m a hm f2)
def sSetC (i : Nat) (f : Env → R Cm) : Env → SR := fun r => bS r (f r) fun c => .nx (r.set i (.cm c))
def eMkC (m : List Da → R Da) (f1 f2 : Env → R Da) : Env → R Cm := fun r => (f1 r).bind fun d1 => (f2 r).bind fun d2 => (m [d1, d2]).bind fun _ => .ok ⟨.bo, d1, [[d2], [], []]⟩
abbrev WfC (K : PySem.W.Frag) (H : Hp) (Q : VK) : Cm → Hp → Hp → Prop := fun c B' H' => ∀ x, CmO K H B' H' x c → Q (.ref x) H'
structure DC (cls : String → Value) (X : Cx) (W : WX) (e : Expr) (f : Env → R Cm) : Prop where
  run : ∃ t, PE X e t ∧ ∀ (F B H : Hp) (σ : L2.St) (r : Env) (Q : VK), Ok X.K F B H σ r → Pw cls B H σ W (WfC X.K H Q) (f r) → t σ H Q
theorem ds_setC (i : Nat) {x : Str} {e : Expr} {f : Env → R Cm} {pos pos' : Pos} (hN : X.N.Nodup) (he : DC cls X W e f) (hi : X.N[i]? = some x := by rfl) (hx : Loc X.env.scope x := by first | exact Or.inl rfl | exact Or.inr rfl)
    (hs : swapsWith e (some (.Name x pos')) pos.line X.env = pure false := by rfl) (hf : X.fn x = true ∨ X.env.scope.names.lookup x = some .local := by first | exact .inl rfl | exact .inr rfl) : DS cls X W (.Assign [.Name x pos'] e pos) (sSetC i f) := by
  obtain ⟨t, pt, h⟩ := he.run
  exact ⟨_, ps_set hN hi hx pt hs hf, fun F B H σ r D k p => h F B H σ r _ k ((Ps.bS p k).imp fun c B' H' s q x hx => q B' H' _ (Gr.refl _ _) (k.setC s hx))⟩
theorem dc_make {k : Nat} {A0 : Around} {m : List Da → R Da} {e1 e2 : Expr} {f1 f2 : Env → R Da} {p pos : Pos} (G : DefJ cls X.prog X.w X.K X.mg X.base k m) (hr : Room (k + 1) A0) (tk : Takes X W) (h1 : DE cls X W e1 f1) (h2 : DE cls X W e2 f2) (hA : X.A = A0 := by rfl)
    (hg : Gl X "Board" := by rfl) (he : starEach [e1, e2] X.env = (false, eval e1 X.env) :: starEach [e2] X.env := by rfl) (hpl : (backTo pos (starEach [e2] X.env)).any (·.1) = false := by rfl) (hs2 : starEach [e2] X.env = (false, eval e2 X.env) :: starEach [] X.env := by rfl) :
    DC cls X W (.Call (.Name "Board" p) [e1, e2] [] pos) (eMkC m f1 f2) := by
  obtain ⟨f, fd, ps, hm, M, hb, F⟩ := G.ex
  obtain ⟨t1, p1, h1⟩ := h1.run
  obtain ⟨t2, p2, h2⟩ := h2.run
  have ha : PA X [e1, e2] (tCons t1 (tCons t2 tNil)) := pa_cons p1 (pa_cons p2 pa_nil hs2) he
  refine ⟨fun σ H Q => tCons t1 (tCons t2 tNil) σ H fun vs H1 => ∀ x dx, H1 x = none → H1 dx = none → dx ≠ x → spJ X.K cls m (.ref x :: vs) (upd (upd H1 dx (.own x)) x (.ins (bC X.K) dx [])) (fun v H2 => v = .non ∧ Q (.ref x) H2) (WE W σ), ⟨fun pins s σ H Q I h => ?_⟩, fun F0 B H σ r Q k q => ?_⟩
  · refine wpAny_Call_Name_kw (ld_glob I hg hm ?_ (by decide))
    refine PySem.W.callWith_K (h₀ := X.base) I.ok.mod.kin M.kp (thn (ha.run pos pins s σ H _ I h) fun us s1 ⟨vs, H1, I1, r, q⟩ => ⟨I1.kIn, ?_⟩) he hpl
    exact run_makeS M F (roomA hr hA) hb (passAt tk σ) I1 r q
  · have q : Pw cls B H σ W (WfC X.K H Q) ((f1 r).bind fun d1 => (f2 r).bind fun d2 => (m [d1, d2]).bind fun _ => .ok ⟨.bo, d1, [[d2], [], []]⟩) := q
    refine h1 F0 B H σ r _ k (q.bind.imp fun d1 B1 H1 s1 q1 v1 hv1 => ?_)
    refine h2 F0 B1 H1 σ r _ (k.stp s1) (q1.bind.imp fun d2 B2 H2 s2 q2 v2 hv2 => ?_)
    intro x dx hx hdx ne
    have s12 := s1.trans s2
    have hxo : upd (upd H2 dx (.own x)) x (.ins (bC X.K) dx []) x = some (.ins (bC X.K) dx []) := upd_same
    have l0 : Le H2 (upd (upd H2 dx (.own x)) x (.ins (bC X.K) dx [])) := (Le.new hdx).trans (Le.new (by rw [upd_ne (Ne.symm ne)]; exact hx))
    have l1 : Le H2 (delH (upd (upd H2 dx (.own x)) x (.ins (bC X.K) dx [])) x) := l0.del hx (nc_plain hxo)
    refine ⟨B2, x, dx, v1, v2, d1, d2, rfl, s12.bh.trans l0, s12.bh.back hx, hxo, hv1.mono s2.gr.1, hv2, k.tb.mono ((k.fh.trans s12.hh).trans l0), ?_⟩
    cases em : m [d1, d2] with
    | ok d =>
      rw [em] at q2
      intro B' H' g1 g2 g3 g4
      exact ⟨rfl, q2 B' H' ⟨g1.weak l1, g2, l1.trans g3⟩ x (g4.weak fun a ha => s12.hh.back (l1.back ha))⟩
    | er c =>
      rw [em] at q2
      exact fun H' l => q2 B2 H' ⟨Gr.refl _ _, s12.bh.trans (l0.trans l), l0.trans l⟩
    | no =>
      rw [em] at q2
      exact q2
end
end Mi

namespace Mi
open PySem PySem.Spec PyProof.Rows L2
def addTp (B C : Hp) : Hp := fun a => match B a with
  | some o => some o
  | none => tupH C a
theorem addTp_l {B C : Hp} {a : Addr} {o : HO} (h : B a = some o) : addTp B C a = some o := by
  unfold addTp
  rw [h]
theorem addTp_r {B C : Hp} {a : Addr} (h : B a = none) : addTp B C a = tupH C a := by
  unfold addTp
  rw [h]
theorem addTp_stp {B B1 H B' H' : Hp} (b : Le B H) (h1 : ∀ y o, B y = some o → B1 y = some o) (h2 : ∀ y o xs, B1 y = some (.frz o (.tup xs)) → B y = some (.frz o (.tup xs))) (s : Stp B1 H B' H') :
    Stp B H (addTp B B') H' ∧ Le (tupH B') (addTp B B') := by
  have new : ∀ y o, B y = none → H y = some o → tupH B' y = none := fun y o hb hy => by
    have e := s.gr.2.1 y o hy
    cases q : tupH B' y with
    | none => rfl
    | some u =>
      obtain ⟨q1, o', xs, rfl⟩ := tupH_some q
      rw [e] at q1
      rw [h2 y o' xs q1] at hb
      cases hb
  refine ⟨⟨⟨Le.ext fun a o h => addTp_l h, fun a o ha => ?_, fun a o xs ha => ?_⟩, fun a u hu => ?_, s.hh⟩, Le.ext fun y u hu => ?_⟩
  · cases q : B a with
    | some u => exact addTp_l q
    | none => rw [addTp_r q]; exact new a o q ha
  · cases q : B a with
    | some u => rw [addTp_l q] at ha; exact ha
    | none =>
      rw [addTp_r q] at ha
      obtain ⟨_, o', xs', e⟩ := tupH_some ha
      cases e
  · cases q : B a with
    | some o =>
      rw [addTp_l q] at hu
      cases hu
      cases u with
      | tbl ps =>
        obtain ⟨q1, q2⟩ := (b.trans s.hh) a _ q
        refine ⟨q1, fun t => q2 ?_⟩
        obtain ⟨ps2, t1, t2, t3⟩ := t
        rw [addTp_l q] at t1
        cases t1
        refine ⟨_, q, t2, fun pos cv hcv => ?_⟩
        obtain ⟨c, e1, e2⟩ := t3 pos cv hcv
        refine ⟨c, e1, ?_⟩
        cases z : B c with
        | some o =>
          rw [addTp_l z] at e2
          exact e2
        | none =>
          rw [addTp_r z] at e2
          obtain ⟨_, o', xs', e⟩ := tupH_some e2
          cases e
      | _ => exact (b.trans s.hh) a _ q
    | none =>
      rw [addTp_r q] at hu
      obtain ⟨h3, o', xs', e⟩ := tupH_some hu
      subst e
      exact s.bh _ _ h3
  · cases q : B y with
    | some o =>
      rw [addTp_l q]
      obtain ⟨h3, o', xs', e⟩ := tupH_some hu
      obtain ⟨o2, h4⟩ := b.has q
      have := s.gr.2.1 y o2 h4
      rw [h3, h1 y o q] at this
      exact this.symm
    | none => rw [addTp_r q]; exact hu
theorem Ok.hold {K : PySem.W.Frag} {F B H : Hp} {σ : L2.St} {r : Env} {i : Nat} {a : Addr} {w : Da} {l1 l2 l3 : List Da} (k : Ok K F B H σ r) (e : r[i]? = some (.cm ⟨.bo, w, [l1, l2, l3]⟩)) (hp : σ[i]? = some (some (.ref a))) :
    ∃ B1, Le B1 H ∧ Le B B1 ∧ BdF K B1 a ⟨w, l1, l2, l3⟩ ∧ (∀ y o, B y = some o → B1 y = some o) ∧ ∀ y o xs, B1 y = some (.frz o (.tup xs)) → B y = some (.frz o (.tup xs)) := by
  have cm := k.cmAt e hp
  obtain ⟨dx, q1, q2, q3, wv, m1, m2, m3, em, g1, g2, g3, g4⟩ := cm.bo
  cases em
  have ef := ft_at g1 (.bo g2)
  have nb : ∀ y ∈ [a, q1, q2, q3], B y = none := fun y hy => (cm.fb y (by rw [ef]; exact hy)).2
  cases g3 with
  | @cons _ _ xs1 _ _ a1 b1 t =>
    cases t with
    | @cons _ _ xs2 _ _ a2 b2 t =>
      cases t with
      | @cons _ _ xs3 _ _ a3 b3 t =>
        simp only [List.nodup_cons, List.mem_cons, List.not_mem_nil, or_false, not_or] at g4
        obtain ⟨⟨p1, p2, p3⟩, ⟨c1, c2⟩, c3, _⟩ := g4
        let oa : HO := .ins (bC K) dx [("world", wv), ("row", .ref q1), ("numbers", .ref q2), ("undone", .ref q3)]
        have e1 : Le B (upd B a oa) := Le.new (nb a (by simp))
        have n1 : upd B a oa q1 = none := by rw [upd_ne (Ne.symm p1)]; exact nb q1 (by simp)
        have e2 : Le (upd B a oa) (upd (upd B a oa) q1 (.lst xs1)) := Le.new n1
        have n2 : upd (upd B a oa) q1 (.lst xs1) q2 = none := by rw [upd_ne (Ne.symm c1), upd_ne (Ne.symm p2)]; exact nb q2 (by simp)
        have e3 : Le (upd (upd B a oa) q1 (.lst xs1)) (upd (upd (upd B a oa) q1 (.lst xs1)) q2 (.lst xs2)) := Le.new n2
        have n3 : upd (upd (upd B a oa) q1 (.lst xs1)) q2 (.lst xs2) q3 = none := by rw [upd_ne (Ne.symm c3), upd_ne (Ne.symm c2), upd_ne (Ne.symm p3)]; exact nb q3 (by simp)
        have e4 : Le (upd (upd (upd B a oa) q1 (.lst xs1)) q2 (.lst xs2)) (upd (upd (upd (upd B a oa) q1 (.lst xs1)) q2 (.lst xs2)) q3 (.lst xs3)) := Le.new n3
        have eb := ((e1.trans e2).trans e3).trans e4
        have lH : Le (upd (upd (upd (upd B a oa) q1 (.lst xs1)) q2 (.lst xs2)) q3 (.lst xs3)) H := (((k.bh.add (o := oa) g1).add a1).add a2).add a3
        refine ⟨_, lH, eb, ⟨dx, q1, q2, q3, wv, xs1, xs2, xs3, ?_, ?_, ?_, upd_same, g2.mono eb, b1.mono eb, b2.mono eb, b3.mono eb⟩, fun y o hy => ?_, fun y o xs hy => ?_⟩
        · rw [upd_ne p3, upd_ne p2, upd_ne p1, upd_same]
        · rw [upd_ne c2, upd_ne c1, upd_same]
        · rw [upd_ne c3, upd_same]
        · have ny : ∀ z ∈ [a, q1, q2, q3], y ≠ z := fun z hz e => by subst e; rw [nb y hz] at hy; cases hy
          rw [upd_ne (ny q3 (by simp)), upd_ne (ny q2 (by simp)), upd_ne (ny q1 (by simp)), upd_ne (ny a (by simp))]
          exact hy
        · by_cases z3 : y = q3
          · subst z3; rw [upd_same] at hy; cases hy
          rw [upd_ne z3] at hy
          by_cases z2 : y = q2
          · subst z2; rw [upd_same] at hy; cases hy
          rw [upd_ne z2] at hy
          by_cases z1 : y = q1
          · subst z1; rw [upd_same] at hy; cases hy
          rw [upd_ne z1] at hy
          by_cases z0 : y = a
          · subst z0
            rw [upd_same] at hy
            have hy : HO.ins (bC K) dx [("world", wv), ("row", .ref q1), ("numbers", .ref q2), ("undone", .ref q3)] = .frz o (.tup xs) := Option.some.inj hy
            cases hy
          rw [upd_ne z0] at hy
          exact hy
section
variable {cls : String → Value} {X : Cx} {W : WX}
def noLD (d : Da) : R Da := if noL d then .ok d else .no
def eMethN (mm : BS → List Da → R Da) (i : Nat) (fs : Env → R (List Da)) : Env → R Da := fun r => match r[i]? with
  | some (.cm ⟨.bo, w, [l1, l2, l3]⟩) => (fs r).bind fun ds => (mm ⟨w, l1, l2, l3⟩ ds).bind noLD
  | _ => .no
theorem spB_of {F B H : Hp} {σ : L2.St} {r : Env} {i : Nat} {a : Addr} {w : Da} {l1 l2 l3 : List Da} {mm : BS → List Da → R Da} {vs : List V} {ds : List Da} {Q : VK} (k : Ok X.K F B H σ r) (e : r[i]? = some (.cm ⟨.bo, w, [l1, l2, l3]⟩)) (hp : σ[i]? = some (some (.ref a))) (hv : RepAll X.K B vs ds)
    (q : Pw cls B H σ W (WfE X.K Q) ((mm ⟨w, l1, l2, l3⟩ ds).bind noLD)) : spB X.K cls mm (.ref a :: vs) H Q (WE W σ) := by
  obtain ⟨B1, b1, b2, bd, z1, z2⟩ := k.hold e hp
  refine ⟨B1, a, _, vs, ds, rfl, b1, bd, hv.mono b2, k.tb.mono k.fh, ?_⟩
  cases em : mm ⟨w, l1, l2, l3⟩ ds with
  | ok d =>
    rw [em] at q
    have q : Pw cls B H σ W (WfE X.K Q) (if noL d then .ok d else .no) := q
    intro B' H' v s hv
    by_cases c : noL d = true
    · rw [if_pos c] at q
      obtain ⟨s2, l2⟩ := addTp_stp k.bh z1 z2 s
      exact q _ H' s2 v ((hv.tups c).mono l2)
    · rw [if_neg c] at q
      exact q.elim
  | er e =>
    rw [em] at q
    exact fun H' l => q B H' ⟨Gr.refl _ _, k.bh.trans l, l⟩
  | no =>
    rw [em] at q
    exact q
theorem de_methN0 (i : Nat) (c : BCls X.K) {x m : Str} {k : Nat} {A0 : Around} {mm : BS → List Da → R Da} {p apos pos : Pos} {pl : Sem Bool} (G : DefB cls X.prog X.w X.K X.mg X.base m k mm) (hr : Room k A0) (tk : Takes X W) (hA : X.A = A0 := by rfl) (hnf : noField m := by decide +kernel)
    (hN : X.N[i]? = some x := by rfl) (hv : Vis X.env.scope x := by first | exact Or.inl rfl | exact Or.inr (Or.inl rfl) | exact Or.inr (Or.inr rfl)) (hd : (x == ("__debug__" : Str)) = false := by decide) (hcd : (x == ("__classdict__" : Str)) = false := by decide)
    (ht : eval (.Call (.Attribute (.Name x p) m apos) [] [] pos) X.env = (do
      let ov ← eval (.Name x p) X.env
      standAt apos.atName
      let (f, first) ← holding [ov] (getMethod ov m pl)
      callWith pos f first (backTo pos (starEach [] X.env)) (backToKw pos (keywordEach [] X.env))) := by rfl) :
    DE cls X W (.Call (.Attribute (.Name x p) m apos) [] [] pos) (eMethN mm i aNil) := by
  obtain ⟨f, fd, ps, hm, hb, F⟩ := G.ex
  refine ⟨_, pe_methS0 (pl := pl) (pe_var hN hv hd hcd) c.cl hm F (roomA hr hA) hb (fun σ => passAt tk σ) ht, fun F0 B H σ r Q k q => ?_⟩
  unfold eMethN at q
  split at q
  · rename_i w l1 l2 l3 e0
    obtain ⟨a, h1, h2⟩ := k.sl i _ e0
    obtain ⟨dx, q1, q2, q3, wv, m1, m2, m3, em, g1, _⟩ := h2.bo
    exact ⟨.ref a, h1, a, dx, _, rfl, g1, lookup_none hnf _ _ _ _, spB_of k e0 h1 .nil q⟩
  · exact q.elim
end
def spBF (K : PySem.W.Frag) (cls : String → Value) (mm : BS → List Da → R Da) : Sp := fun vs H Q E => ∃ B x b us ds, vs = .ref x :: us ∧ Le B H ∧ BdF K B x b ∧ RepAll K B us ds ∧ TbAll K H ∧ match mm b ds with
  | .ok d => ∀ B' H' p, Stp B H B' H' → H p = none → B' p = none → OwnD K B' H' p d → Q (.ref p) H'
  | .er c => ∀ H', Le H H' → E (cls c) none H'
  | .no => False
structure DefBF (cls : String → Value) (P : Program) (w : World) (K : PySem.W.Frag) (mg : Str → Option Value) (base : Heap) (m : Str) (k : Nat) (mm : BS → List Da → R Da) : Prop where
  ex : ∃ f fd ps, Meth K (bC K) m f ∧ Binds K fd ps [] ∧ FnOk P w K mg base (L2.CX P w) k f fd ps (spBF K cls mm)
theorem mkDefBF {cls : String → Value} {P : Program} {w : World} {K : PySem.W.Frag} {mg : Str → Option Value} {base : Heap} {m qual : Str} {st : Stmt} {N ps : List Str} {k : Nat} {e : Expr} {rpos : Pos} {f0 : Env → R Da} (R0 : RawB K m qual st) (S : FnScope N ps (defScope st))
    (hb : ∀ (kV doc pm : Value) (an : Option Addr) (cdv ct : Value) (us : List Value), us.length = ps.length → bindArgs (PySem.W.fnOf m qual (defArgs st) (defBody st) (defScope st) .none kV doc pm an cdv ct) ⟨us, []⟩ = pure (ps.zip us)) (eb : defBody st = [.Return (some e) rpos])
    (body : ∀ (X : Cx) (E : XK) (f : Addr) (cdv : Value) (A : Around) (outer : List PySem.Env) (s : Shared) (H : Hp), X = cxOf (L2.CX P w) P w K mg base N qual (defScope st) f cdv A outer s H E → Room k X.A → Takes X (fun c d _ H => E c d H) → PassesOwn (model X.prog X.w) X.A X.env X.xe →
      DF cls X (fun c d _ H => E c d H) e f0) : DefBF cls P w K mg base m (k + 1) (fnB ps.length N.length (sRet (eFz f0))) := by
  obtain ⟨f, fd, F, hm⟩ := R0.ex
  refine ⟨f, fd, ps, hm, F.binds hb, F.okX S (fun vs H Q E h => ?_) (fun cdv A outer s H vs Q E hr h => ?_)⟩
  · obtain ⟨B, x, b, us, ds, rfl, l, hb, r, tb, h⟩ := h
    rw [List.length_cons, r.length]
    unfold fnB at h
    by_cases hl : ds.length + 1 = ps.length
    · exact hl
    · rw [if_neg hl] at h
      exact h.elim
  · obtain ⟨B, x, b, us, ds, rfl, l, hb, r, tb, h⟩ := h
    have tk : Takes (cxOf (L2.CX P w) P w K mg base N qual (defScope st) f cdv A outer s H E) (fun c d _ H => E c d H) := takes_of rfl rfl rfl rfl
    have hp : PassesOwn (model (cxOf (L2.CX P w) P w K mg base N qual (defScope st) f cdv A outer s H E).prog (cxOf (L2.CX P w) P w K mg base N qual (defScope st) f cdv A outer s H E).w) (cxOf (L2.CX P w) P w K mg base N qual (defScope st) f cdv A outer s H E).A (cxOf (L2.CX P w) P w K mg base N qual (defScope st) f cdv A outer s H E).env (cxOf (L2.CX P w) P w K mg base N qual (defScope st) f cdv A outer s H E).xe := passes_of rfl
    obtain ⟨t, pt, hd⟩ := (body _ E f cdv A outer s H rfl hr tk hp).run
    rw [eb]
    refine ⟨_, pss_one (ps_ret pt), hd H B H _ (envB N.length b ds) _ (ok_startB l hb r tb) ?_⟩
    unfold fnB at h
    by_cases hl : ds.length + 1 = ps.length
    · rw [if_pos hl] at h
      unfold sRet eFz at h
      show Pw cls B H _ _ (WfF K H _) (f0 (envB N.length b ds))
      cases q : f0 (envB N.length b ds) with
      | ok d =>
        rw [q] at h
        intro B' H' s' p n1 n2 o
        cases d with
        | list es => exact h B' H' p s' n1 n2 o
        | none => exact o.elim
        | bool b => exact o.elim
        | int b => exact o.elim
        | str b => exact o.elim
        | tuple b => exact o.elim
        | dict b => exact h.elim
      | er c =>
        rw [q] at h
        exact fun B' H' s' => h H' s'.hh
      | no =>
        rw [q] at h
        exact h.elim
    · rw [if_neg hl] at h
      exact h.elim
section
variable {cls : String → Value} {X : Cx} {W : WX}
def lsN : Da → R Da
  | .list es => if noLs es then .ok (.list es) else .no
  | _ => .no
def eMethF (mm : BS → List Da → R Da) (i : Nat) : Env → R Da := fun r => match r[i]? with
  | some (.cm ⟨.bo, w, [l1, l2, l3]⟩) => (mm ⟨w, l1, l2, l3⟩ []).bind lsN
  | _ => .no
theorem df_methF (i : Nat) (c : BCls X.K) {x m : Str} {k : Nat} {A0 : Around} {mm : BS → List Da → R Da} {p apos pos : Pos} {pl : Sem Bool} (G : DefBF cls X.prog X.w X.K X.mg X.base m k mm) (hr : Room k A0) (tk : Takes X W) (hA : X.A = A0 := by rfl) (hnf : noField m := by decide +kernel)
    (hN : X.N[i]? = some x := by rfl) (hv : Vis X.env.scope x := by first | exact Or.inl rfl | exact Or.inr (Or.inl rfl) | exact Or.inr (Or.inr rfl)) (hd : (x == ("__debug__" : Str)) = false := by decide) (hcd : (x == ("__classdict__" : Str)) = false := by decide)
    (ht : eval (.Call (.Attribute (.Name x p) m apos) [] [] pos) X.env = (do
      let ov ← eval (.Name x p) X.env
      standAt apos.atName
      let (f, first) ← holding [ov] (getMethod ov m pl)
      callWith pos f first (backTo pos (starEach [] X.env)) (backToKw pos (keywordEach [] X.env))) := by rfl) :
    DF cls X W (.Call (.Attribute (.Name x p) m apos) [] [] pos) (eMethF mm i) := by
  obtain ⟨f, fd, ps, hm, hb, F⟩ := G.ex
  refine ⟨_, pe_methS0 (pl := pl) (pe_var hN hv hd hcd) c.cl hm F (roomA hr hA) hb (fun σ => passAt tk σ) ht, fun F0 B H σ r Q k q => ?_⟩
  unfold eMethF at q
  split at q
  · rename_i w l1 l2 l3 e0
    obtain ⟨a, h1, h2⟩ := k.sl i _ e0
    obtain ⟨dx, q1, q2, q3, wv, m1, m2, m3, em, g1, _⟩ := h2.bo
    obtain ⟨B1, b1, b2, bd, z1, z2⟩ := k.hold e0 h1
    refine ⟨.ref a, h1, a, dx, _, rfl, g1, lookup_none hnf _ _ _ _, B1, a, _, [], [], rfl, b1, bd, .nil, k.tb.mono k.fh, ?_⟩
    cases em : mm ⟨w, l1, l2, l3⟩ [] with
    | ok d =>
      rw [em] at q
      have q : Pw cls B H σ W (WfF X.K H Q) (lsN d) := q
      intro B' H' p s n1 n2 o
      cases d with
      | list es =>
        have q : Pw cls B H σ W (WfF X.K H Q) (if noLs es then .ok (.list es) else .no) := q
        by_cases c : noLs es = true
        · rw [if_pos c] at q
          obtain ⟨s2, l2⟩ := addTp_stp k.bh z1 z2 s
          obtain ⟨xs, o1, o2⟩ := o
          refine q _ H' s2 p n1 ?_ ⟨xs, o1, (o2.tups c).mono l2⟩
          rw [addTp_r (k.bh.back n1)]
          unfold tupH
          rw [n2]
        · rw [if_neg c] at q
          exact q.elim
      | none => exact o.elim
      | bool b => exact o.elim
      | int b => exact o.elim
      | str b => exact o.elim
      | tuple b => exact o.elim
      | dict b => exact q.elim
    | er e =>
      rw [em] at q
      exact fun H' l => q B H' ⟨Gr.refl _ _, k.bh.trans l, l⟩
    | no =>
      rw [em] at q
      exact q
  · exact q.elim
end
end Mi

namespace Mi
open PySem PySem.Spec PyProof.Rows L2
section
variable {cls : String → Value} {X : Cx} {W : WX}
def eMkS (f : Env → R Da) : Env → R Cm := fun r => (f r).bind fun d => .ok ⟨.st, .none, [[d], [], []]⟩
theorem dc_state {e : Expr} {f : Env → R Da} {j1 j2 j3 : Nat} {c1 c2 c3 p1 p2 p3 pos : Pos} (he : DE cls X W e f) (hs : starEach [e] X.env = (false, eval e X.env) :: starEach [] X.env := by rfl) :
    DC cls X W (.Dict [some (.Constant (.str "row") j1 c1), some (.Constant (.str "numbers") j2 c2), some (.Constant (.str "undone") j3 c3)] [.List [e] p1, .List [] p2, .List [] p3] pos) (eMkS f) := by
  obtain ⟨t, pt, h⟩ := he.run
  refine ⟨_, pe_disp (pps_cons pe_str (pe_lst (pa_cons pt pa_nil hs)) (pps_cons pe_str (pe_lst pa_nil) (pps_cons pe_str (pe_lst pa_nil) pps_nil))) rfl rfl (by simp) (by simp), fun F B H σ r Q k p a ha => ?_⟩
  have s0 : Stp B H B (upd H a (.dK [])) := Stp.drop k.bh ha
  refine h F B _ σ r _ (k.stp s0) ?_
  have p : Pw cls B H σ W (WfC X.K H Q) ((f r).bind fun d => .ok ⟨.st, .none, [[d], [], []]⟩) := p
  cases ef : f r with
  | er c =>
    rw [ef] at p
    exact fun B2 H2 s2 => p B2 H2 (s0.trans s2)
  | no =>
    rw [ef] at p
    exact p.elim
  | ok d =>
  rw [ef] at p
  intro B1 H1 s1 v hv
  have b0 : B a = none := k.bh.back ha
  have b1 : B1 a = none := by rw [s1.gr.2.1 a _ upd_same]; exact b0
  have ha1 : H1 a = some (.dK []) := s1.hh.at upd_same
  refine ⟨by rw [sizeLine_eq]; simp, fun q1 n1 => ⟨by rw [sizeLine_eq]; simp, fun q2 n2 => ⟨by rw [sizeLine_eq]; simp, fun q3 n3 => ?_⟩⟩⟩
  have e1 : q1 ≠ a := fun z => by subst z; rw [n1] at ha1; cases ha1
  have e21 : q2 ≠ q1 := fun z => by subst z; rw [upd_same] at n2; cases n2
  rw [upd_ne e21] at n2
  have e2 : q2 ≠ a := fun z => by subst z; rw [n2] at ha1; cases ha1
  have e32 : q3 ≠ q2 := fun z => by subst z; rw [upd_same] at n3; cases n3
  rw [upd_ne e32] at n3
  have e31 : q3 ≠ q1 := fun z => by subst z; rw [upd_same] at n3; cases n3
  rw [upd_ne e31] at n3
  have e3 : q3 ≠ a := fun z => by subst z; rw [n3] at ha1; cases ha1
  have m1 : upd H1 q1 (.lst [v]) q2 = none := by rw [upd_ne e21]; exact n2
  have m2 : upd (upd H1 q1 (.lst [v])) q2 (.lst []) q3 = none := by rw [upd_ne e32, upd_ne e31]; exact n3
  have l3 : Le H1 (upd (upd (upd H1 q1 (.lst [v])) q2 (.lst [])) q3 (.lst [])) := ((Le.new n1).trans (Le.new m1)).trans (Le.new m2)
  have ha3 : upd (upd (upd H1 q1 (.lst [v])) q2 (.lst [])) q3 (.lst []) a = some (.dK []) := l3.at ha1
  refine ⟨ha3, [(.inr "row", .ref q1), (.inr "numbers", .ref q2), (.inr "undone", .ref q3)], rfl, by simp, ?_⟩
  have em : mergeK [] [((.inr "row" : Key), V.ref q1), (.inr "numbers", .ref q2), (.inr "undone", .ref q3)] = [(.inr "row", .ref q1), (.inr "numbers", .ref q2), (.inr "undone", .ref q3)] := by rfl
  rw [em]
  have ho : upd (upd (upd (upd H1 q1 (.lst [v])) q2 (.lst [])) q3 (.lst [])) a (.dK [(.inr "row", .ref q1), (.inr "numbers", .ref q2), (.inr "undone", .ref q3)]) a = some (.dK [(.inr "row", .ref q1), (.inr "numbers", .ref q2), (.inr "undone", .ref q3)]) := upd_same
  have hh : Le H H1 := (Le.new ha).trans s1.hh
  refine p B1 _ ⟨(s0.trans s1).gr, (s1.bh.trans l3).put b1 (nc_plain ha3), (hh.trans l3).put ha (nc_plain ha3)⟩ a ⟨⟨_, [q1, q2, q3], ho, .st, .cons ?_ (.cons hv .nil) (.cons ?_ .nil (.cons ?_ .nil .nil)), ?_⟩, fun y hy => ?_⟩
  · rw [upd_ne e1, upd_ne (Ne.symm e31), upd_ne (Ne.symm e21), upd_same]
  · rw [upd_ne e2, upd_ne (Ne.symm e32), upd_same]
  · rw [upd_ne e3, upd_same]
  · simp only [List.nodup_cons, List.mem_cons, List.not_mem_nil, or_false, not_or, List.nodup_nil, not_false_eq_true, and_true]
    exact ⟨⟨Ne.symm e1, Ne.symm e2, Ne.symm e3⟩, ⟨Ne.symm e21, Ne.symm e31⟩, Ne.symm e32⟩
  · rw [ft_at (K := X.K) (B := B1) (w := .none) ho .st] at hy
    simp only [List.mem_cons, List.not_mem_nil, or_false] at hy
    rcases hy with rfl | rfl | rfl | rfl
    · exact ⟨ha, b1⟩
    · exact ⟨hh.back n1, s1.bh.back n1⟩
    · exact ⟨hh.back n2, s1.bh.back n2⟩
    · exact ⟨hh.back n3, s1.bh.back n3⟩
end
def outT (w : Da) : SX → RM
  | .nx r => (match r[(3 : Nat)]?, r[(4 : Nat)]?, r[(5 : Nat)]? with
    | some (.ow (.list x)), some (.ow (.list y)), some (.ow (.list z)) => .ok .none ⟨.st, w, [x, y, z]⟩
    | _, _, _ => .no)
  | .rt d r => (match r[(3 : Nat)]?, r[(4 : Nat)]?, r[(5 : Nat)]? with
    | some (.ow (.list x)), some (.ow (.list y)), some (.ow (.list z)) => .ok d ⟨.st, w, [x, y, z]⟩
    | _, _, _ => .no)
  | .er e r => (match r[(3 : Nat)]?, r[(4 : Nat)]?, r[(5 : Nat)]? with
    | some (.ow (.list x)), some (.ow (.list y)), some (.ow (.list z)) => .er e ⟨.st, w, [x, y, z]⟩
    | _, _, _ => .no)
  | .no => .no
def envT (a b : Da) (l1 l2 l3 : List Da) : Env := [.fz a, .un, .fz b, .ow (.list l1), .ow (.list l2), .ow (.list l3), .un, .un]
def fnT (g : Env → SX) : Cm → List Da → RM := fun c ds => match c, ds with
  | ⟨.st, w, [l1, l2, l3]⟩, [a, b] => outT w (g (envT a b l1 l2 l3))
  | _, _ => .no
theorem get8 {s0 s1 s2 s3 s4 s5 s6 s7 s : Sl} {i : Nat} (h : [s0, s1, s2, s3, s4, s5, s6, s7][i]? = some s) : (i = 0 ∧ s = s0) ∨ (i = 1 ∧ s = s1) ∨ (i = 2 ∧ s = s2) ∨ (i = 3 ∧ s = s3) ∨ (i = 4 ∧ s = s4) ∨ (i = 5 ∧ s = s5) ∨ (i = 6 ∧ s = s6) ∨ (i = 7 ∧ s = s7) := by
  match i, h with
  | 0, h => cases h; simp
  | 1, h => cases h; simp
  | 2, h => cases h; simp
  | 3, h => cases h; simp
  | 4, h => cases h; simp
  | 5, h => cases h; simp
  | 6, h => cases h; simp
  | 7, h => cases h; simp
  | i + 8, h => cases h
theorem ok_startT {K : PySem.W.Frag} {G B H : Hp} {wv pv dv : V} {a b : Da} {q1 q2 q3 : Addr} {l1 l2 l3 : List Da} (l : Le B H) (lg : Le G H) (r1 : Rep K B wv a) (r2 : Rep K B dv b) (lo : LsO K B H [q1, q2, q3] [l1, l2, l3]) (nd : [q1, q2, q3].Nodup) (gq : ∀ q ∈ [q1, q2, q3], G q = none ∧ B q = none) (tb : TbAll K G) :
    Ok K G B H [some wv, some pv, some dv, some (.ref q1), some (.ref q2), some (.ref q3), none, none] (envT a b l1 l2 l3) := by
  cases lo with
  | @cons _ _ xs1 _ _ a1 b1 t =>
  cases t with
  | @cons _ _ xs2 _ _ a2 b2 t =>
  cases t with
  | @cons _ _ xs3 _ _ a3 b3 t =>
  simp only [List.nodup_cons, List.mem_cons, List.not_mem_nil, or_false, not_or] at nd
  obtain ⟨⟨c1, c2⟩, c3, _⟩ := nd
  refine ⟨l, lg, rfl, fun i s e => ?_, fun i j d1 d2 q ne e1 e2 h1 h2 => ?_, tb, cmi_none fun i c e => ?_⟩
  · rcases get8 e with ⟨rfl, rfl⟩ | ⟨rfl, rfl⟩ | ⟨rfl, rfl⟩ | ⟨rfl, rfl⟩ | ⟨rfl, rfl⟩ | ⟨rfl, rfl⟩ | ⟨rfl, rfl⟩ | ⟨rfl, rfl⟩
    · exact ⟨wv, rfl, r1⟩
    · trivial
    · exact ⟨dv, rfl, r2⟩
    · exact ⟨q1, rfl, (gq q1 (by simp)).1, (gq q1 (by simp)).2, xs1, a1, b1⟩
    · exact ⟨q2, rfl, (gq q2 (by simp)).1, (gq q2 (by simp)).2, xs2, a2, b2⟩
    · exact ⟨q3, rfl, (gq q3 (by simp)).1, (gq q3 (by simp)).2, xs3, a3, b3⟩
    · trivial
    · trivial
  · rcases get8 e1 with ⟨rfl, z⟩ | ⟨rfl, z⟩ | ⟨rfl, z⟩ | ⟨rfl, z⟩ | ⟨rfl, z⟩ | ⟨rfl, z⟩ | ⟨rfl, z⟩ | ⟨rfl, z⟩ <;> first | (cases z; done) | skip
    all_goals
      rcases get8 e2 with ⟨rfl, z'⟩ | ⟨rfl, z'⟩ | ⟨rfl, z'⟩ | ⟨rfl, z'⟩ | ⟨rfl, z'⟩ | ⟨rfl, z'⟩ | ⟨rfl, z'⟩ | ⟨rfl, z'⟩ <;> first | (cases z'; done) | skip
    all_goals first | exact ne rfl | skip
    all_goals
      have h1 := Option.some.inj (Option.some.inj h1)
      have h2 := Option.some.inj (Option.some.inj h2)
      have h3 := V.ref.inj (h1.trans h2.symm)
      first | exact c1 h3 | exact c1 h3.symm | exact c2 h3 | exact c2 h3.symm | exact c3 h3 | exact c3 h3.symm
  · rcases get8 e with ⟨rfl, z⟩ | ⟨rfl, z⟩ | ⟨rfl, z⟩ | ⟨rfl, z⟩ | ⟨rfl, z⟩ | ⟨rfl, z⟩ | ⟨rfl, z⟩ | ⟨rfl, z⟩ <;> cases z
theorem room_u {k : Nat} {A : Around} (hr : Room k A) : A.units + 1 < cLine := by
  have := hr.units
  omega
abbrev tN : List Str := ["world", "state", "deed", "row", "numbers", "undone", "which", "some"]
abbrev tP : List Str := ["world", "state", "deed"]
theorem mkDefT3 {cls : String → Value} {P : Program} {w : World} {K : PySem.W.Frag} {mg : Str → Option Value} {base : Heap} {x : Str} {st s0 : Stmt} {rest : List Stmt} {k : Nat} {g : Env → SX} (R0 : Raw K mg x st) (S : FnScope tN tP (defScope st))
    (hb : ∀ (kV doc pm : Value) (an : Option Addr) (cdv ct : Value) (us : List Value), us.length = tP.length → bindArgs (PySem.W.fnOf x x (defArgs st) (defBody st) (defScope st) .none kV doc pm an cdv ct) ⟨us, []⟩ = pure (tP.zip us)) (eb : defBody st = s0 :: rest)
    (body : ∀ (X : Cx) (E : XK) (f : Addr) (cdv : Value) (A : Around) (outer : List PySem.Env) (s : Shared) (H : Hp), X = cxOf (L2.CX P w) P w K mg base tN x (defScope st) f cdv A outer s H E → Room k X.A → Takes X (fun c d _ H => E c d H) → PassesOwn (model X.prog X.w) X.A X.env X.xe →
      PS X s0 (tPar3 3 4 5 (tCons (tDGet (tVar 1) (tC (.str "row"))) (tCons (tDGet (tVar 1) (tC (.str "numbers"))) (tCons (tDGet (tVar 1) (tC (.str "undone"))) tNil)))) ∧ DSxs cls X (fun c d _ H => E c d H) [3, 4, 5] rest g) : DefXf cls P w K mg base x (k + 1) 1 (fnT g) := by
  obtain ⟨f, fd, F, hm⟩ := R0.ex
  refine ⟨f, fd, tP, hm, F.kp, F.binds hb, F.okX S (fun vs H Q E h => ?_) (fun cdv A outer s H vs Q E hr h => ?_)⟩
  · obtain ⟨B, p, c, us1, us2, ds1, ds2, rfl, hn, l, cm, r1, r2, tb, h⟩ := h
    unfold fnT at h
    split at h
    · rename_i w0 l1 l2 l3 a b e
      have h1 := r1.length
      have h2 := r2.length
      have h3 := congrArg List.length e
      rw [List.length_append] at h3
      simp only [List.length_append, List.length_cons, List.length_nil] at h3 ⊢
      omega
    · exact h.elim
  · obtain ⟨B, p, c, us1, us2, ds1, ds2, rfl, hn, l, cm, r1, r2, tb, h⟩ := h
    have tk : Takes (cxOf (L2.CX P w) P w K mg base tN x (defScope st) f cdv A outer s H E) (fun c d _ H => E c d H) := takes_of rfl rfl rfl rfl
    have hp : PassesOwn (model (cxOf (L2.CX P w) P w K mg base tN x (defScope st) f cdv A outer s H E).prog (cxOf (L2.CX P w) P w K mg base tN x (defScope st) f cdv A outer s H E).w) (cxOf (L2.CX P w) P w K mg base tN x (defScope st) f cdv A outer s H E).A (cxOf (L2.CX P w) P w K mg base tN x (defScope st) f cdv A outer s H E).env (cxOf (L2.CX P w) P w K mg base tN x (defScope st) f cdv A outer s H E).xe := passes_of rfl
    obtain ⟨ps0, hd⟩ := body _ E f cdv A outer s H rfl hr tk hp
    obtain ⟨t, pt, hd⟩ := hd.run
    rw [eb]
    refine ⟨_, pss_cons ps0 pt, ?_⟩
    unfold fnT at h
    split at h
    · rename_i w0 l1 l2 l3 a b e
      obtain ⟨d1, rfl⟩ : ∃ d, ds1 = [d] := List.length_eq_one_iff.mp hn
      cases e
      match us1, r1 with
      | [wv], .cons rw1 .nil =>
      match us2, r2 with
      | [dv], .cons rw2 .nil =>
      obtain ⟨q1, q2, q3, m1, m2, m3, em, g1, g3, g4⟩ := cm.st
      cases em
      have ef := ft_at (K := K) (B := B) (w := w0) g1 .st
      have pn : p ∉ [q1, q2, q3] := (List.nodup_cons.mp g4).1
      have lG : Le (delS H (ftOf H .st p)) (delS H [q1, q2, q3]) := Le.ext fun y o hy => by
        obtain ⟨n1, n2⟩ := delS_some hy
        rw [ef] at n1
        rw [delS_out fun z => n1 (List.mem_cons_of_mem _ z)]
        exact n2
      have fb : ∀ y ∈ [p, q1, q2, q3], B y = none := fun y hy => (cm.fb y (by rw [ef]; exact hy)).2
      have k0 : Ok K (delS H [q1, q2, q3]) B H [some wv, some (.ref p), some dv, some (.ref q1), some (.ref q2), some (.ref q3), none, none] (envT a b l1 l2 l3) :=
        ok_startT l (delS_le _ _) rw1 rw2 g3 (List.nodup_cons.mp g4).2 (fun q hq => ⟨delS_in hq, fb q (List.mem_cons_of_mem _ hq)⟩) (tb.mono lG)
      refine ⟨.ref p, rfl, p, .ref q1, rfl, .inl ⟨_, .inr "row", .inl g1, rfl, by rfl⟩, .ref p, rfl, p, .ref q2, rfl, .inl ⟨_, .inr "numbers", .inl g1, rfl, by rfl⟩, .ref p, rfl, p, .ref q3, rfl, .inl ⟨_, .inr "undone", .inl g1, rfl, by rfl⟩, .ref q1, .ref q2, .ref q3, rfl, ?_⟩
      refine hd (fun i => [some wv, some (.ref p), some dv, some (.ref q1), some (.ref q2), some (.ref q3), none, none][i]?) (delS H [q1, q2, q3]) B H _ _ _ k0 (fun i hi => rfl) ?_
      have gp : delS H [q1, q2, q3] p = some (.dK [(.inr "row", .ref q1), (.inr "numbers", .ref q2), (.inr "undone", .ref q3)]) := by rw [delS_out pn]; exact g1
      have fin : ∀ (B' H' : Hp) (σ' : L2.St) (r' : Env) (x y z : List Da), Gr (delS H [q1, q2, q3]) B B' → Ok K (delS H [q1, q2, q3]) B' H' σ' r' → Pin [3, 4, 5] (fun i => [some wv, some (.ref p), some dv, some (.ref q1), some (.ref q2), some (.ref q3), none, none][i]?) σ' → r'[(3 : Nat)]? = some (.ow (.list x)) → r'[(4 : Nat)]? = some (.ow (.list y)) → r'[(5 : Nat)]? = some (.ow (.list z)) →
          CmO K (delS H (ftOf H .st p)) B' H' p ⟨.st, w0, [x, y, z]⟩ := fun B' H' σ' r' x y z gr k' hp e3 e4 e5 => by
        obtain ⟨_, z1, xs1, z2, z3⟩ := own_nc k' e3 (hp 3 (by simp))
        obtain ⟨_, y1, xs2, y2, y3⟩ := own_nc k' e4 (hp 4 (by simp))
        obtain ⟨_, u1, xs3, u2, u3⟩ := own_nc k' e5 (hp 5 (by simp))
        have hp' : H' p = some (.dK [(.inr "row", .ref q1), (.inr "numbers", .ref q2), (.inr "undone", .ref q3)]) := k'.fh.at gp
        refine ⟨⟨_, [q1, q2, q3], hp', .st, .cons z2 z3 (.cons y2 y3 (.cons u2 u3 .nil)), g4⟩, fun v hv => ?_⟩
        rw [ft_at (K := K) (B := B') (w := w0) hp' .st] at hv
        refine ⟨delS_in (by rw [ef]; exact hv), ?_⟩
        simp only [List.mem_cons, List.not_mem_nil, or_false] at hv
        rcases hv with rfl | rfl | rfl | rfl
        · rw [gr.2.1 _ _ gp]
          exact fb _ (by simp)
        · exact z1
        · exact y1
        · exact u1
      cases q : g (envT a b l1 l2 l3) with
      | nx r' =>
        rw [q] at h
        unfold outT at h
        intro B' H' σ' gr k' hp
        dsimp only at h
        split at h
        · rename_i x y z e3 e4 e5
          exact h B' H' _ (gr.weak lG) k'.bh (lG.trans k'.fh) (fin B' H' σ' r' x y z gr k' hp e3 e4 e5) .non
        · exact h.elim
      | rt d r' =>
        rw [q] at h
        unfold outT at h
        intro B' H' σ' v gr k' hp hv
        dsimp only at h
        split at h
        · rename_i x y z e3 e4 e5
          exact h B' H' v (gr.weak lG) k'.bh (lG.trans k'.fh) (fin B' H' σ' r' x y z gr k' hp e3 e4 e5) hv
        · exact h.elim
      | er d r' =>
        rw [q] at h
        unfold outT at h
        intro B' H' σ' gr k' hp
        dsimp only at h
        split at h
        · rename_i x y z e3 e4 e5
          exact h B' H' (gr.weak lG) k'.bh (lG.trans k'.fh) (fin B' H' σ' r' x y z gr k' hp e3 e4 e5)
        · exact h.elim
      | no =>
        rw [q] at h
        exact h.elim
    · exact h.elim
end Mi

namespace Mi
open PySem PySem.Spec PyProof.Rows L2
theorem seq_nx {f g : Env → SR} {r r' : Env} {x : SR} (h : f r = .nx r') (h2 : g r' = x) : sSeq f g r = x := by
  unfold sSeq
  rw [h]
  exact h2
theorem md (c : Int) (n : Nat) (h : 0 < n) : ∃ a : Nat, a < n ∧ c % (n : Int) = (a : Int) := by
  have h1 := Int.emod_nonneg c (b := (n : Int)) (by omega)
  have h2 := Int.emod_lt_of_pos c (b := (n : Int)) (by omega)
  exact ⟨(c % (n : Int)).toNat, by omega, by omega⟩
theorem call_ok {m : List Da → R Da} {fs : Env → R (List Da)} {r : Env} {ds : List Da} {d : Da} (h1 : fs r = .ok ds) (h2 : m ds = .ok d) : eCall m fs r = .ok d := by
  unfold eCall
  rw [h1]
  exact h2
theorem bin_ok {g : Da → Da → R Da} {fa fb : Env → R Da} {r : Env} {x y d : Da} (h1 : fa r = .ok x) (h2 : fb r = .ok y) (h3 : g x y = .ok d) : eBin g fa fb r = .ok d := by
  unfold eBin
  rw [h1]
  show (fb r).bind _ = _
  rw [h2]
  show (g x y).calm = _
  rw [h3]
  rfl
theorem cons_ok {f : Env → R Da} {g : Env → R (List Da)} {r : Env} {d : Da} {ds : List Da} (h1 : f r = .ok d) (h2 : g r = .ok ds) : aCons f g r = .ok (d :: ds) := by
  unfold aCons
  rw [h1]
  show (g r).bind _ = _
  rw [h2]
  rfl
theorem set_nx {i : Nat} {f : Env → R Da} {r : Env} {d : Da} (h : f r = .ok d) : sSet i f r = .nx (r.set i (.fz d)) := by
  unfold sSet
  rw [h]
  rfl
theorem mod_ok {i j : Int} (h : 0 < j) : dMod (.int i) (.int j) = .ok (.int (i % j)) := by
  show (if 0 < j then R.ok (PyData.int (i % j)) else .no) = _
  rw [if_pos h]
theorem mul_ok {i j : Int} (h : (-(2 ^ 64) < i ∧ i < 2 ^ 64) ∨ (-(2 ^ 64) < j ∧ j < 2 ^ 64)) : dMulI (.int i) (.int j) = .ok (.int (i * j)) := by
  show (if _ then R.ok (PyData.int (i * j)) else .no) = _
  rw [if_pos h]
theorem pow_okB {i j : Int} (h : powC i j) : dPow (.int i) (.int j) = .ok (.int (i ^ j.toNat)) := by
  show (if _ then R.ok (PyData.int (i ^ j.toNat)) else .no) = _
  rw [if_pos h]
theorem pow_ok {i j : Int} (h : 0 ≤ j ∧ j ≤ 1000000 ∧ i.natAbs < 2 ^ 64) : dPow (.int i) (.int j) = .ok (.int (i ^ j.toNat)) := pow_okB ⟨h.1, bits_mul_le h.2.2 h.1 h.2.1⟩
theorem fdiv_ok {i j : Int} (h : 0 < j ∧ j < 1073741824) : dFdiv (.int i) (.int j) = .ok (.int (i / j)) := by
  show (if _ then R.ok (PyData.int (i / j)) else .no) = _
  rw [if_pos h]
def cellG : Env → SR := (sSeq (sIf (tB (eBin dLt (eVar 1) (eBl (d1 lenD) (aCons (eVar 0) aNil)))) (sRet (eBin dItem (eVar 0) (eVar 1))) sNil) (sRet (eC (.int 0))))
theorem atD_nat {xs : List Da} {k : Nat} {d : Da} (h : xs[k]? = some d) : atD xs (k : Int) = some d := by
  obtain ⟨hl, _⟩ := List.getElem?_eq_some_iff.mp h
  have e : ixN xs.length (k : Int) = some k := by
    unfold ixN
    simp only [Int.toNat_natCast]
    first
      | (rw [if_pos (by omega)]; done)
      | (simp; omega)
      | (split <;> simp_all <;> omega)
  unfold atD
  rw [e]
  exact h
theorem cell_of (ns : List Int) (k : Nat) : fnD 2 2 cellG [.list (ns.map PyData.int), .int (k : Int)] = .ok (.int (ns.getD k 0)) := by
  show outS (cellG [.fz (.list (ns.map PyData.int)), .fz (.int (k : Int))]) = _
  have hl : (ns.map PyData.int).length = ns.length := List.length_map _
  have ht : tB (eBin dLt (eVar 1) (eBl (d1 lenD) (aCons (eVar 0) aNil))) [.fz (.list (ns.map PyData.int)), .fz (.int (k : Int))] = .ok (decide ((k : Int) < ((ns.map PyData.int).length : Nat))) := rfl
  by_cases h : k < ns.length
  · have hd : decide ((k : Int) < ((ns.map PyData.int).length : Nat)) = true := decide_eq_true (by rw [hl]; omega)
    rw [hd] at ht
    have hi : eBin dItem (eVar 0) (eVar 1) [.fz (.list (ns.map PyData.int)), .fz (.int (k : Int))] = .ok (.int (ns.getD k 0)) := by
      show (match atD (ns.map PyData.int) (k : Int) with | some d => R.ok d | none => .no).calm = _
      rw [atD_nat (d := .int (ns.getD k 0)) (by rw [List.getElem?_map, List.getElem?_eq_getElem h, List.getD_eq_getElem?_getD, List.getElem?_eq_getElem h]; rfl)]
      rfl
    unfold cellG sSeq sIf
    rw [ht]
    show outS (match sRet (eBin dItem (eVar 0) (eVar 1)) [.fz (.list (ns.map PyData.int)), .fz (.int (k : Int))] with | .nx r' => _ | x => x) = _
    unfold sRet
    rw [hi]
    rfl
  · have hd : decide ((k : Int) < ((ns.map PyData.int).length : Nat)) = false := decide_eq_false (by rw [hl]; omega)
    rw [hd] at ht
    have hg : ns.getD k 0 = 0 := by
      rw [List.getD_eq_getElem?_getD, List.getElem?_eq_none (by omega)]
      rfl
    unfold cellG sSeq sIf
    rw [ht, hg]
    rfl
end Mi

namespace Mi
open PySem PySem.Spec PyProof.Rows L2
def excL : List String := ["JumpError", "BadWorld", "BadStand", "BadJump", "BadCount", "Never", "TooMany", "BadText", "BadNames", "Nothing"]
def b_has : Env → SR := (sRet (eBin dEq (eLc [3] (iD (eVar 1)) (gNm 3) ftYes (eBin dItem' (eVar 0) (eVar 3))) (eBl (d1 listD') (aCons (eVar 2) aNil))))
def m_has : List Da → R Da := fnD 3 4 b_has
def b_put : Env → SR := (sSeq (sOwn 3 (eBl (d1 listD') (aCons (eVar 0) aNil)))
  (sSeq (sFor (iZip (eVar 1) (eVar 2)) (gTp (gsCons (gNm 4) (gsCons (gNm 5) gsNil)) 2) (sPut 3 (eVar 4) (eVar 5)))
  (sRet (eMs joinD (eC (.str (Str.ofString ""))) (aCons (eRd 3) aNil)))))
def b_put_0 : Env → SR := (sOwn 3 (eBl (d1 listD') (aCons (eVar 0) aNil)))
def b_put_1 : Env → SR := (sFor (iZip (eVar 1) (eVar 2)) (gTp (gsCons (gNm 4) (gsCons (gNm 5) gsNil)) 2) (sPut 3 (eVar 4) (eVar 5)))
def b_put_2 : Env → SR := (sRet (eMs joinD (eC (.str (Str.ofString ""))) (aCons (eRd 3) aNil)))
theorem b_put_eq : b_put = (sSeq b_put_0 (sSeq b_put_1 b_put_2)) := rfl
def m_put : List Da → R Da := fnD 3 6 b_put
def b_moves_of : Env → SR := (sSeq (sOwn 2 (eLst aNil))
  (sSeq (sFor (iEnu (eBin dItem' (eVar 0) (eC (.int 1)))) (gTp (gsCons (gNm 3) (gsCons (gNm 4) gsNil)) 2) (sIf (tTru (eCall m_has (aCons (eVar 1) (aCons (eVar 4) (aCons (eC (.str (Str.ofString "oo."))) aNil))))) (sApp 2 (eTup (aCons (eVar 3) (aCons (eCall m_put (aCons (eVar 1) (aCons (eVar 4) (aCons (eC (.str (Str.ofString "..o"))) aNil)))) aNil)))) sNil))
  (sFrzA 2 (sRet (eVar 2)))))
def b_moves_of_0 : Env → SR := (sOwn 2 (eLst aNil))
def b_moves_of_1 : Env → SR := (sFor (iEnu (eBin dItem' (eVar 0) (eC (.int 1)))) (gTp (gsCons (gNm 3) (gsCons (gNm 4) gsNil)) 2) (sIf (tTru (eCall m_has (aCons (eVar 1) (aCons (eVar 4) (aCons (eC (.str (Str.ofString "oo."))) aNil))))) (sApp 2 (eTup (aCons (eVar 3) (aCons (eCall m_put (aCons (eVar 1) (aCons (eVar 4) (aCons (eC (.str (Str.ofString "..o"))) aNil)))) aNil)))) sNil))
def b_moves_of_2 : Env → SR := (sFrzA 2 (sRet (eVar 2)))
theorem b_moves_of_eq : b_moves_of = (sSeq b_moves_of_0 (sSeq b_moves_of_1 b_moves_of_2)) := rfl
def m_moves_of : List Da → R Da := fnD 2 5 b_moves_of
def b_Board_can : Env → SR := (sRet (eFz (eLc [1, 2] (iD (eCall m_moves_of (aCons (eFld 0 0) (aCons (eBin dItem' (eFld 0 1) (eNeg (eC (.int 1)))) aNil)))) (gTp (gsCons (gNm 1) (gsCons (gNm 2) gsNil)) 2) ftYes (eVar 1))))
def m_Board_can : BS → List Da → R Da := fnB 1 3 b_Board_can
def b_Board_done : Env → SR := (sRet (eFz (eBl (d1 listD') (aCons (eFld 0 2) aNil))))
def m_Board_done : BS → List Da → R Da := fnB 1 1 b_Board_done
def b_is_within : Env → SR := (sRet (eAnd (eIsi "int" (eVar 0)) (eAnd (eNt (eIsi "bool" (eVar 0))) (eChain dLe dLe (eVar 1) (eVar 0) (eVar 2)))))
def m_is_within : List Da → R Da := fnD 3 3 b_is_within
def b_is_jump : Env → SR := (sSeq (sIf (tOr (tNot (tTru (eIsi "tuple" (eVar 1)))) (tOr (tB (eBin dNe (eBl (d1 lenD) (aCons (eVar 1) aNil)) (eC (.int 3)))) (tTru (eLc [2] (iD (eVar 1)) (gNm 2) (tNot (tTru (eCall m_is_within (aCons (eVar 2) (aCons (eC (.int 0)) (aCons (eBin dSub (eVar 0) (eC (.int 1))) aNil)))))) (eVar 2))))) (sRet (eC (.bool false))) sNil)
  (sRet (eBin dEq (eLs (eVar 1)) (eC (.int 3)))))
def b_is_jump_0 : Env → SR := (sIf (tOr (tNot (tTru (eIsi "tuple" (eVar 1)))) (tOr (tB (eBin dNe (eBl (d1 lenD) (aCons (eVar 1) aNil)) (eC (.int 3)))) (tTru (eLc [2] (iD (eVar 1)) (gNm 2) (tNot (tTru (eCall m_is_within (aCons (eVar 2) (aCons (eC (.int 0)) (aCons (eBin dSub (eVar 0) (eC (.int 1))) aNil)))))) (eVar 2))))) (sRet (eC (.bool false))) sNil)
def b_is_jump_1 : Env → SR := (sRet (eBin dEq (eLs (eVar 1)) (eC (.int 3))))
theorem b_is_jump_eq : b_is_jump = (sSeq b_is_jump_0 b_is_jump_1) := rfl
def m_is_jump : List Da → R Da := fnD 2 3 b_is_jump
def b_is_world : Env → SR := (sSeq (sIf (tOr (tNot (tTru (eIsi "tuple" (eVar 0)))) (tOr (tB (eBin dNe (eBl (d1 lenD) (aCons (eVar 0) aNil)) (eC (.int 2)))) (tNot (tTru (eCall m_is_within (aCons (eBin dItem' (eVar 0) (eC (.int 0))) (aCons (eC (.int 3)) (aCons (eC (.int 12)) aNil)))))))) (sRet (eC (.bool false))) sNil)
  (sSeq (sIf (tOr (tNot (tTru (eIsi "tuple" (eBin dItem' (eVar 0) (eC (.int 1)))))) (tB (eBin dGt (eBl (d1 lenD) (aCons (eBin dItem' (eVar 0) (eC (.int 1))) aNil)) (eC (.int 16))))) (sRet (eC (.bool false))) sNil)
  (sSeq (sIf (tTru (eLc [1] (iD (eBin dItem' (eVar 0) (eC (.int 1)))) (gNm 1) (tNot (tTru (eCall m_is_jump (aCons (eBin dItem' (eVar 0) (eC (.int 0))) (aCons (eVar 1) aNil))))) (eVar 1))) (sRet (eC (.bool false))) sNil)
  (sRet (eNt (eLc [1, 2] (iZip (eBin dItem' (eVar 0) (eC (.int 1))) (eSl (eBin dItem' (eVar 0) (eC (.int 1))) (oS (eC (.int 1))) oN)) (gTp (gsCons (gNm 1) (gsCons (gNm 2) gsNil)) 2) (tB (eBin dGe (eVar 1) (eVar 2))) (eC (.int 1))))))))
def b_is_world_0 : Env → SR := (sIf (tOr (tNot (tTru (eIsi "tuple" (eVar 0)))) (tOr (tB (eBin dNe (eBl (d1 lenD) (aCons (eVar 0) aNil)) (eC (.int 2)))) (tNot (tTru (eCall m_is_within (aCons (eBin dItem' (eVar 0) (eC (.int 0))) (aCons (eC (.int 3)) (aCons (eC (.int 12)) aNil)))))))) (sRet (eC (.bool false))) sNil)
def b_is_world_1 : Env → SR := (sIf (tOr (tNot (tTru (eIsi "tuple" (eBin dItem' (eVar 0) (eC (.int 1)))))) (tB (eBin dGt (eBl (d1 lenD) (aCons (eBin dItem' (eVar 0) (eC (.int 1))) aNil)) (eC (.int 16))))) (sRet (eC (.bool false))) sNil)
def b_is_world_2 : Env → SR := (sIf (tTru (eLc [1] (iD (eBin dItem' (eVar 0) (eC (.int 1)))) (gNm 1) (tNot (tTru (eCall m_is_jump (aCons (eBin dItem' (eVar 0) (eC (.int 0))) (aCons (eVar 1) aNil))))) (eVar 1))) (sRet (eC (.bool false))) sNil)
def b_is_world_3 : Env → SR := (sRet (eNt (eLc [1, 2] (iZip (eBin dItem' (eVar 0) (eC (.int 1))) (eSl (eBin dItem' (eVar 0) (eC (.int 1))) (oS (eC (.int 1))) oN)) (gTp (gsCons (gNm 1) (gsCons (gNm 2) gsNil)) 2) (tB (eBin dGe (eVar 1) (eVar 2))) (eC (.int 1)))))
theorem b_is_world_eq : b_is_world = (sSeq b_is_world_0 (sSeq b_is_world_1 (sSeq b_is_world_2 b_is_world_3))) := rfl
def m_is_world : List Da → R Da := fnD 1 3 b_is_world
def b_look : Env → SR := (sIf (tNot (tTru (eCall m_is_world (aCons (eVar 0) aNil)))) (sRaise "BadWorld") sNil)
def m_look : List Da → R Da := fnD 1 1 b_look
def b_is_stand : Env → SR := (sSeq (sIf (tOr (tNot (tTru (eIsi "str" (eVar 1)))) (tB (eBin dNe (eBl (d1 lenD) (aCons (eVar 1) aNil)) (eBin dItem' (eVar 0) (eC (.int 0)))))) (sRet (eC (.bool false))) sNil)
  (sRet (eNt (eLc [2] (iD (eVar 1)) (gNm 2) (tB (eBin dNotIn' (eVar 2) (eC (.str (Str.ofString "o."))))) (eVar 2)))))
def b_is_stand_0 : Env → SR := (sIf (tOr (tNot (tTru (eIsi "str" (eVar 1)))) (tB (eBin dNe (eBl (d1 lenD) (aCons (eVar 1) aNil)) (eBin dItem' (eVar 0) (eC (.int 0)))))) (sRet (eC (.bool false))) sNil)
def b_is_stand_1 : Env → SR := (sRet (eNt (eLc [2] (iD (eVar 1)) (gNm 2) (tB (eBin dNotIn' (eVar 2) (eC (.str (Str.ofString "o."))))) (eVar 2))))
theorem b_is_stand_eq : b_is_stand = (sSeq b_is_stand_0 b_is_stand_1) := rfl
def m_is_stand : List Da → R Da := fnD 2 3 b_is_stand
def b_look_stand : Env → SR := (sSeq (sExp (eCall m_look (aCons (eVar 0) aNil)))
  (sIf (tNot (tTru (eCall m_is_stand (aCons (eVar 0) (aCons (eVar 1) aNil))))) (sRaise "BadStand") sNil))
def b_look_stand_0 : Env → SR := (sExp (eCall m_look (aCons (eVar 0) aNil)))
def b_look_stand_1 : Env → SR := (sIf (tNot (tTru (eCall m_is_stand (aCons (eVar 0) (aCons (eVar 1) aNil))))) (sRaise "BadStand") sNil)
theorem b_look_stand_eq : b_look_stand = (sSeq b_look_stand_0 b_look_stand_1) := rfl
def m_look_stand : List Da → R Da := fnD 2 2 b_look_stand
def b_Board_stand : Env → SR := (sRet (eBin dItem' (eFld 0 1) (eNeg (eC (.int 1)))))
def m_Board_stand : BS → List Da → R Da := fnB 1 1 b_Board_stand
def b__law_in : Env → SR := (sRet (eAnd (eIsi "int" (eVar 0)) (eAnd (eNt (eIsi "bool" (eVar 0))) (eChain dLe dLe (eVar 1) (eVar 0) (eVar 2)))))
def m__law_in : List Da → R Da := fnD 3 3 b__law_in
def b_back_of : Env → SR := (sSeq (sOwn 2 (eLst aNil))
  (sSeq (sFor (iEnu (eBin dItem' (eVar 0) (eC (.int 1)))) (gTp (gsCons (gNm 3) (gsCons (gNm 4) gsNil)) 2) (sIf (tTru (eCall m_has (aCons (eVar 1) (aCons (eVar 4) (aCons (eC (.str (Str.ofString "..o"))) aNil))))) (sApp 2 (eTup (aCons (eVar 3) (aCons (eCall m_put (aCons (eVar 1) (aCons (eVar 4) (aCons (eC (.str (Str.ofString "oo."))) aNil)))) aNil)))) sNil))
  (sFrzA 2 (sRet (eVar 2)))))
def m_back_of : List Da → R Da := fnD 2 5 b_back_of
def b_all_from : Env → SR := (sSeq (sOwn 2 (eDis (pCons (eVar 1) (eC (.bool true)) pNil)))
  (sSeq (sOwn 3 (eLst (aCons (eVar 1) aNil)))
  (sSeq (sSet 4 (eC (.int 0)))
  (sSeq (loopW (tB (eBin dLt (eVar 4) (eBl (d1 lenD) (aCons (eRd 3) aNil)))) (sSeq (sFor (iD (eCall m_moves_of (aCons (eVar 0) (aCons (eBin dItem' (eRd 3) (eVar 4)) aNil)))) (gTp (gsCons (gNm 5) (gsCons (gNm 6) gsNil)) 2) (sIf (tB (eBin dNotIn' (eVar 6) (eRd 2))) (sSeq (sDput 2 (eVar 6) (eC (.bool true)))
  (sApp 3 (eVar 6))) sNil))
  (sSeq (sAug 4 (fun a b => a + b) (eC (.int 1)))
  (sIf (tB (eBin dGt (eBl (d1 lenD) (aCons (eRd 3) aNil)) (eC (.int 80)))) (sRaise "TooMany") sNil))) 2000)
  (sFrzA 2 (sRet (eVar 2)))))))
def m_all_from : List Da → R Da := fnD 2 7 b_all_from
def b_all_to : Env → SR := (sSeq (sOwn 2 (eDis (pCons (eVar 1) (eC (.bool true)) pNil)))
  (sSeq (sOwn 3 (eLst (aCons (eVar 1) aNil)))
  (sSeq (sSet 4 (eC (.int 0)))
  (sSeq (loopW (tB (eBin dLt (eVar 4) (eBl (d1 lenD) (aCons (eRd 3) aNil)))) (sSeq (sFor (iD (eCall m_back_of (aCons (eVar 0) (aCons (eBin dItem' (eRd 3) (eVar 4)) aNil)))) (gTp (gsCons (gNm 5) (gsCons (gNm 6) gsNil)) 2) (sIf (tB (eBin dNotIn' (eVar 6) (eRd 2))) (sSeq (sDput 2 (eVar 6) (eC (.bool true)))
  (sApp 3 (eVar 6))) sNil))
  (sSeq (sAug 4 (fun a b => a + b) (eC (.int 1)))
  (sIf (tB (eBin dGt (eBl (d1 lenD) (aCons (eRd 3) aNil)) (eC (.int 80)))) (sRaise "TooMany") sNil))) 2000)
  (sFrzA 2 (sRet (eVar 2)))))))
def m_all_to : List Da → R Da := fnD 2 7 b_all_to
def b_look_two : Env → SR := (sSeq (sExp (eCall m_look_stand (aCons (eVar 0) (aCons (eVar 1) aNil))))
  (sExp (eCall m_look_stand (aCons (eVar 0) (aCons (eVar 2) aNil)))))
def m_look_two : List Da → R Da := fnD 3 3 b_look_two
def b_between : Env → SR := (sSeq (sSet 3 (eCall m_all_from (aCons (eVar 0) (aCons (eVar 1) aNil))))
  (sSeq (sIf (tB (eBin dNotIn' (eVar 2) (eVar 3))) (sRaise "Never") sNil)
  (sSeq (sSet 4 (eCall m_all_to (aCons (eVar 0) (aCons (eVar 2) aNil))))
  (sRet (eFz (eLc [5] (iD (eVar 3)) (gNm 5) (tB (eBin dIn' (eVar 5) (eVar 4))) (eVar 5)))))))
def m_between : List Da → R Da := fnD 3 6 b_between
def b__law_put : Env → SR := (sSeq (sOwn 3 (eBl (d1 listD') (aCons (eVar 0) aNil)))
  (sSeq (sAsm (eVar 2) (gmStr (gmCons (gPut 3 (eBin dItem' (eVar 1) (eC (.int 0)))) (gmCons (gPut 3 (eBin dItem' (eVar 1) (eC (.int 1)))) (gmCons (gPut 3 (eBin dItem' (eVar 1) (eC (.int 2)))) gmNil))) 3))
  (sRet (eMs joinD (eC (.str (Str.ofString ""))) (aCons (eRd 3) aNil)))))
def b__law_put_0 : Env → SR := (sOwn 3 (eBl (d1 listD') (aCons (eVar 0) aNil)))
def b__law_put_1 : Env → SR := (sAsm (eVar 2) (gmStr (gmCons (gPut 3 (eBin dItem' (eVar 1) (eC (.int 0)))) (gmCons (gPut 3 (eBin dItem' (eVar 1) (eC (.int 1)))) (gmCons (gPut 3 (eBin dItem' (eVar 1) (eC (.int 2)))) gmNil))) 3))
def b__law_put_2 : Env → SR := (sRet (eMs joinD (eC (.str (Str.ofString ""))) (aCons (eRd 3) aNil)))
theorem b__law_put_eq : b__law_put = (sSeq b__law_put_0 (sSeq b__law_put_1 b__law_put_2)) := rfl
def m__law_put : List Da → R Da := fnD 3 4 b__law_put
def b__law_steps : Env → SR := (sSeq (sOwn 4 (eLst aNil))
  (sSeq (sFor (iEnu (eBin dItem' (eVar 0) (eC (.int 1)))) (gTp (gsCons (gNm 5) (gsCons (gTp (gsCons (gNm 6) (gsCons (gNm 7) (gsCons (gNm 8) gsNil))) 3) gsNil)) 2) (sIf (tB (eBin dEq (eBin dAdd (eBin dAdd (eBin dItem' (eVar 1) (eVar 6)) (eBin dItem' (eVar 1) (eVar 7))) (eBin dItem' (eVar 1) (eVar 8))) (eVar 2))) (sApp 4 (eTup (aCons (eVar 5) (aCons (eCall m__law_put (aCons (eVar 1) (aCons (eTup (aCons (eVar 6) (aCons (eVar 7) (aCons (eVar 8) aNil)))) (aCons (eVar 3) aNil)))) aNil)))) sNil))
  (sFrzA 4 (sRet (eVar 4)))))
def b__law_steps_0 : Env → SR := (sOwn 4 (eLst aNil))
def b__law_steps_1 : Env → SR := (sFor (iEnu (eBin dItem' (eVar 0) (eC (.int 1)))) (gTp (gsCons (gNm 5) (gsCons (gTp (gsCons (gNm 6) (gsCons (gNm 7) (gsCons (gNm 8) gsNil))) 3) gsNil)) 2) (sIf (tB (eBin dEq (eBin dAdd (eBin dAdd (eBin dItem' (eVar 1) (eVar 6)) (eBin dItem' (eVar 1) (eVar 7))) (eBin dItem' (eVar 1) (eVar 8))) (eVar 2))) (sApp 4 (eTup (aCons (eVar 5) (aCons (eCall m__law_put (aCons (eVar 1) (aCons (eTup (aCons (eVar 6) (aCons (eVar 7) (aCons (eVar 8) aNil)))) (aCons (eVar 3) aNil)))) aNil)))) sNil))
def b__law_steps_2 : Env → SR := (sFrzA 4 (sRet (eVar 4)))
theorem b__law_steps_eq : b__law_steps = (sSeq b__law_steps_0 (sSeq b__law_steps_1 b__law_steps_2)) := rfl
def m__law_steps : List Da → R Da := fnD 4 9 b__law_steps
def b__law_moves : Env → SR := (sRet (eCall m__law_steps (aCons (eVar 0) (aCons (eVar 1) (aCons (eC (.str (Str.ofString "oo."))) (aCons (eC (.str (Str.ofString "..o"))) aNil))))))
def m__law_moves : List Da → R Da := fnD 2 2 b__law_moves
def b__law_cell : Env → SR := (sSeq (sIf (tB (eBin dLt (eVar 1) (eBl (d1 lenD) (aCons (eVar 0) aNil)))) (sRet (eBin dItem' (eVar 0) (eVar 1))) sNil)
  (sRet (eC (.int 0))))
def m__law_cell : List Da → R Da := fnD 2 2 b__law_cell
def b__law_seed : Env → SR := (sRet (eBin dMod (eBin dPow (eBin dMod (eBin dAdd (eBin dAdd (eBin dMulI (eVar 0) (eC (.int 1103515245))) (eBin dMulI (eC (.int 7919)) (eVar 1))) (eC (.int 12345))) (eC (.int 2147483647))) (eC (.int 5))) (eC (.int 2147483647))))
def m__law_seed : List Da → R Da := fnD 2 2 b__law_seed
def b__law_world : Env → SR := (sSeq (sSet 2 (eCall m__law_seed (aCons (eCall m__law_cell (aCons (eVar 0) (aCons (eVar 1) aNil))) (aCons (eC (.int 0)) aNil))))
  (sSeq (sSet 3 (eBin dItem' (eLst (aCons (eBin dAdd (eC (.int 3)) (eBin dMod (eBin dFdiv (eVar 2) (eC (.int 5))) (eC (.int 10)))) (aCons (eC (.int 12)) (aCons (eC (.int 6)) (aCons (eC (.int 9)) aNil))))) (eBin dMod (eBin dFdiv (eVar 2) (eC (.int 7))) (eC (.int 4)))))
  (sSeq (sOwn 4 (eLst aNil))
  (sSeq (sIf (tB (eBin dEq (eBin dMod (eBin dFdiv (eVar 2) (eC (.int 11))) (eC (.int 3))) (eC (.int 0)))) (sFor (iR1 (eBin dSub (eVar 3) (eC (.int 2)))) (gNm 5) (sOwn 4 (eCat (eRd 4) (eLst (aCons (eTup (aCons (eVar 5) (aCons (eBin dAdd (eVar 5) (eC (.int 1))) (aCons (eBin dAdd (eVar 5) (eC (.int 2))) aNil)))) (aCons (eTup (aCons (eBin dAdd (eVar 5) (eC (.int 2))) (aCons (eBin dAdd (eVar 5) (eC (.int 1))) (aCons (eVar 5) aNil)))) aNil)))))) (sIf (tB (eBin dEq (eBin dMod (eBin dFdiv (eVar 2) (eC (.int 11))) (eC (.int 3))) (eC (.int 1)))) (sFor (iR1 (eVar 3)) (gNm 5) (sSeq (sOwn 4 (eCat (eRd 4) (eRep (eLst (aCons (eTup (aCons (eVar 5) (aCons (eBin dAdd (eVar 5) (eC (.int 1))) (aCons (eBin dAdd (eVar 5) (eC (.int 2))) aNil)))) aNil)) (eBl (d1 intD) (aCons (eAnd (eBin dLt (eBin dMod (eVar 5) (eC (.int 4))) (eC (.int 2))) (eBin dLt (eBin dAdd (eVar 5) (eC (.int 2))) (eVar 3))) aNil)))))
  (sOwn 4 (eCat (eRd 4) (eRep (eLst (aCons (eTup (aCons (eVar 5) (aCons (eBin dAdd (eVar 5) (eC (.int 4))) (aCons (eBin dAdd (eVar 5) (eC (.int 8))) aNil)))) (aCons (eTup (aCons (eBin dAdd (eVar 5) (eC (.int 8))) (aCons (eBin dAdd (eVar 5) (eC (.int 4))) (aCons (eVar 5) aNil)))) aNil))) (eBl (d1 intD) (aCons (eBin dLt (eBin dAdd (eVar 5) (eC (.int 8))) (eVar 3)) aNil))))))) (sFor (iR1 (eBin dMod (eBin dFdiv (eVar 2) (eC (.int 13))) (eC (.int 17)))) (gNm 5) (sSeq (sSet 6 (eCall m__law_seed (aCons (eBin dAdd (eCall m__law_cell (aCons (eVar 0) (aCons (eBin dAdd (eBin dAdd (eVar 1) (eC (.int 1))) (eBin dMod (eVar 5) (eC (.int 3)))) aNil))) (eBin dMulI (eC (.int 41)) (eVar 5))) (aCons (eVar 5) aNil))))
  (sSeq (sSet 7 (eBin dMod (eBin dFdiv (eVar 6) (eC (.int 5))) (eVar 3)))
  (sSeq (sSet 8 (eBin dMod (eBin dAdd (eBin dAdd (eVar 7) (eC (.int 1))) (eBin dMod (eBin dFdiv (eVar 6) (eC (.int 7))) (eBin dSub (eVar 3) (eC (.int 1))))) (eVar 3)))
  (sSeq (sOwn 9 (eLc [10] (iR1 (eVar 3)) (gNm 10) (tB (eBin dNotIn' (eVar 10) (eTup (aCons (eVar 7) (aCons (eVar 8) aNil))))) (eVar 10)))
  (sFrz 9 (sApp 4 (eTup (aCons (eVar 7) (aCons (eVar 8) (aCons (eBin dItem' (eVar 9) (eBin dMod (eBin dFdiv (eVar 6) (eC (.int 11))) (eBl (d1 lenD) (aCons (eVar 9) aNil)))) aNil)))))))))))))
  (sRet (eTup (aCons (eVar 3) (aCons (eSl (eBl (d1 tupleD) (aCons (eSs (eRd 4)) aNil)) oN (oS (eC (.int 16)))) aNil))))))))
def b__law_world_0 : Env → SR := (sSet 2 (eCall m__law_seed (aCons (eCall m__law_cell (aCons (eVar 0) (aCons (eVar 1) aNil))) (aCons (eC (.int 0)) aNil))))
def b__law_world_1 : Env → SR := (sSet 3 (eBin dItem' (eLst (aCons (eBin dAdd (eC (.int 3)) (eBin dMod (eBin dFdiv (eVar 2) (eC (.int 5))) (eC (.int 10)))) (aCons (eC (.int 12)) (aCons (eC (.int 6)) (aCons (eC (.int 9)) aNil))))) (eBin dMod (eBin dFdiv (eVar 2) (eC (.int 7))) (eC (.int 4)))))
def b__law_world_2 : Env → SR := (sOwn 4 (eLst aNil))
def b__law_world_3 : Env → SR := (sIf (tB (eBin dEq (eBin dMod (eBin dFdiv (eVar 2) (eC (.int 11))) (eC (.int 3))) (eC (.int 0)))) (sFor (iR1 (eBin dSub (eVar 3) (eC (.int 2)))) (gNm 5) (sOwn 4 (eCat (eRd 4) (eLst (aCons (eTup (aCons (eVar 5) (aCons (eBin dAdd (eVar 5) (eC (.int 1))) (aCons (eBin dAdd (eVar 5) (eC (.int 2))) aNil)))) (aCons (eTup (aCons (eBin dAdd (eVar 5) (eC (.int 2))) (aCons (eBin dAdd (eVar 5) (eC (.int 1))) (aCons (eVar 5) aNil)))) aNil)))))) (sIf (tB (eBin dEq (eBin dMod (eBin dFdiv (eVar 2) (eC (.int 11))) (eC (.int 3))) (eC (.int 1)))) (sFor (iR1 (eVar 3)) (gNm 5) (sSeq (sOwn 4 (eCat (eRd 4) (eRep (eLst (aCons (eTup (aCons (eVar 5) (aCons (eBin dAdd (eVar 5) (eC (.int 1))) (aCons (eBin dAdd (eVar 5) (eC (.int 2))) aNil)))) aNil)) (eBl (d1 intD) (aCons (eAnd (eBin dLt (eBin dMod (eVar 5) (eC (.int 4))) (eC (.int 2))) (eBin dLt (eBin dAdd (eVar 5) (eC (.int 2))) (eVar 3))) aNil)))))
  (sOwn 4 (eCat (eRd 4) (eRep (eLst (aCons (eTup (aCons (eVar 5) (aCons (eBin dAdd (eVar 5) (eC (.int 4))) (aCons (eBin dAdd (eVar 5) (eC (.int 8))) aNil)))) (aCons (eTup (aCons (eBin dAdd (eVar 5) (eC (.int 8))) (aCons (eBin dAdd (eVar 5) (eC (.int 4))) (aCons (eVar 5) aNil)))) aNil))) (eBl (d1 intD) (aCons (eBin dLt (eBin dAdd (eVar 5) (eC (.int 8))) (eVar 3)) aNil))))))) (sFor (iR1 (eBin dMod (eBin dFdiv (eVar 2) (eC (.int 13))) (eC (.int 17)))) (gNm 5) (sSeq (sSet 6 (eCall m__law_seed (aCons (eBin dAdd (eCall m__law_cell (aCons (eVar 0) (aCons (eBin dAdd (eBin dAdd (eVar 1) (eC (.int 1))) (eBin dMod (eVar 5) (eC (.int 3)))) aNil))) (eBin dMulI (eC (.int 41)) (eVar 5))) (aCons (eVar 5) aNil))))
  (sSeq (sSet 7 (eBin dMod (eBin dFdiv (eVar 6) (eC (.int 5))) (eVar 3)))
  (sSeq (sSet 8 (eBin dMod (eBin dAdd (eBin dAdd (eVar 7) (eC (.int 1))) (eBin dMod (eBin dFdiv (eVar 6) (eC (.int 7))) (eBin dSub (eVar 3) (eC (.int 1))))) (eVar 3)))
  (sSeq (sOwn 9 (eLc [10] (iR1 (eVar 3)) (gNm 10) (tB (eBin dNotIn' (eVar 10) (eTup (aCons (eVar 7) (aCons (eVar 8) aNil))))) (eVar 10)))
  (sFrz 9 (sApp 4 (eTup (aCons (eVar 7) (aCons (eVar 8) (aCons (eBin dItem' (eVar 9) (eBin dMod (eBin dFdiv (eVar 6) (eC (.int 11))) (eBl (d1 lenD) (aCons (eVar 9) aNil)))) aNil)))))))))))))
def b__law_world_4 : Env → SR := (sRet (eTup (aCons (eVar 3) (aCons (eSl (eBl (d1 tupleD) (aCons (eSs (eRd 4)) aNil)) oN (oS (eC (.int 16)))) aNil))))
theorem b__law_world_eq : b__law_world = (sSeq b__law_world_0 (sSeq b__law_world_1 (sSeq b__law_world_2 (sSeq b__law_world_3 b__law_world_4)))) := rfl
def m__law_world : List Da → R Da := fnD 2 11 b__law_world
def b__law_pick : Env → SR := (sRet (eBin dMod (eBin dFdiv (eVar 0) (eC (.int 97))) (eVar 1)))
def m__law_pick : List Da → R Da := fnD 2 2 b__law_pick
def b__law_stand : Env → SR := (sRet (eMs joinD (eC (.str (Str.ofString ""))) (aCons (eLc [2] (iR1 (eVar 1)) (gNm 2) ftYes (eIf (tB (eBin dLt (eCall m__law_pick (aCons (eCall m__law_seed (aCons (eVar 0) (aCons (eVar 2) aNil))) (aCons (eC (.int 9)) aNil))) (eBin dItem' (eLst (aCons (eC (.int 5)) (aCons (eC (.int 7)) (aCons (eC (.int 3)) aNil)))) (eBin dMod (eBin dFdiv (eVar 0) (eC (.int 5))) (eC (.int 3)))))) (eC (.str (Str.ofString "o"))) (eC (.str (Str.ofString "."))))) aNil)))
def m__law_stand : List Da → R Da := fnD 2 3 b__law_stand
def b__law_mix : Env → SR := (sRet (eBin dMod (eBin dMod (eBin dPow (eBin dMod (eBin dMulI (eVar 0) (eC (.int 48271))) (eVar 1)) (eC (.int 3))) (eVar 1)) (eVar 2)))
def m__law_mix : List Da → R Da := fnD 3 3 b__law_mix
def b__law_start : Env → SR := (sSeq (sSet 3 (eCall m__law_stand (aCons (eCall m__law_seed (aCons (eCall m__law_cell (aCons (eVar 0) (aCons (eVar 1) aNil))) (aCons (eC (.int 1)) aNil))) (aCons (eBin dItem' (eVar 2) (eC (.int 0))) aNil))))
  (sSeq (sIf (tAnd (tB (eBin dNe (eBin dItem' (eVar 2) (eC (.int 1))) (eTup aNil))) (tB (eBin dGt (eBin dMod (eCall m__law_cell (aCons (eVar 0) (aCons (eVar 1) aNil))) (eC (.int 3))) (eC (.int 0))))) (sSeq (sSet 4 (eBin dItem' (eBin dItem' (eVar 2) (eC (.int 1))) (eCall m__law_mix (aCons (eCall m__law_cell (aCons (eVar 0) (aCons (eBin dAdd (eVar 1) (eC (.int 1))) aNil))) (aCons (eC (.int 9949)) (aCons (eBl (d1 lenD) (aCons (eBin dItem' (eVar 2) (eC (.int 1))) aNil)) aNil))))))
  (sSet 3 (eCall m__law_put (aCons (eVar 3) (aCons (eVar 4) (aCons (eC (.str (Str.ofString "oo."))) aNil)))))) sNil)
  (sRet (eVar 3))))
def m__law_start : List Da → R Da := fnD 3 5 b__law_start
def y_Board_go : Env → SX := (zSeq (zExp (xFapp 0 0 (eCall m_put (aCons (eBin dItem' (eFldC 0 0) (eNeg (eC (.int 1)))) (aCons (eBin dItem' (eBin dItem' (eFldW 0) (eC (.int 1))) (eVar 1)) (aCons (eC (.str (Str.ofString "..o"))) aNil))))))
  (zSeq (zExp (xFapp 0 1 (eVar 1)))
  (zRet (xL (eMs (s1D countS) (eBin dItem' (eFldC 0 0) (eNeg (eC (.int 1)))) (aCons (eC (.str (Str.ofString "o"))) aNil))))))
def x_Board_go : Cm → List Da → RM := fnX 2 2 y_Board_go
def y_Board_jump : Env → SX := (zSeq (zIf (tOr (tNot (tTru (eCall m_is_within (aCons (eVar 1) (aCons (eC (.int 0)) (aCons (eBin dSub (eBl (d1 lenD) (aCons (eBin dItem' (eFldW 0) (eC (.int 1))) aNil)) (eC (.int 1))) aNil)))))) (tNot (tTru (eCall m_has (aCons (eBin dItem' (eFldC 0 0) (eNeg (eC (.int 1)))) (aCons (eBin dItem' (eBin dItem' (eFldW 0) (eC (.int 1))) (eVar 1)) (aCons (eC (.str (Str.ofString "oo."))) aNil))))))) (zRaise "BadJump") zNil)
  (zSeq (zFnew 0)
  (zRet (xMeth x_Board_go 0 (aCons (eVar 1) aNil)))))
def x_Board_jump : Cm → List Da → RM := fnX 2 2 y_Board_jump
def y_Board_back : Env → SX := (zSeq (zIf (tNot (tTru (eFldC 0 1))) (zRaise "Nothing") zNil)
  (zSeq (zExp (xFpop 0 0))
  (zSeq (zExp (xFmove 0 2 1))
  (zRet (xL (eBin dItem' (eFldC 0 2) (eNeg (eC (.int 1)))))))))
def x_Board_back : Cm → List Da → RM := fnX 1 1 y_Board_back
def y_Board_again : Env → SX := (zSeq (zIf (tNot (tTru (eFldC 0 2))) (zRaise "Nothing") zNil)
  (zSeq (zSet 1 (xFpop 0 2))
  (zSeq (zExp (xMeth x_Board_go 0 (aCons (eVar 1) aNil)))
  (zRet (xL (eVar 1))))))
def x_Board_again : Cm → List Da → RM := fnX 1 2 y_Board_again
def y__law_board : Env → SX := (zSeq (zSet 2 (xL (eC .none)))
  (zSeq (zTry excL (zIf (tB (eBin dEq (eBin dItem' (eVar 1) (eC (.int 0))) (eC (.str (Str.ofString "jump"))))) (zSet 2 (xMeth x_Board_jump 0 (aCons (eBin dItem' (eVar 1) (eC (.int 1))) aNil))) (zSet 2 (xIf (tB (eBin dEq (eBin dItem' (eVar 1) (eC (.int 0))) (eC (.str (Str.ofString "back"))))) (xMeth x_Board_back 0 aNil) (xMeth x_Board_again 0 aNil)))) (("BadJump", (zSet 2 (xL (eC (.str (Str.ofString "jump")))))) :: (("Nothing", (zSet 2 (xL (eC (.str (Str.ofString "nothing")))))) :: [])))
  (zRet (xL (eVar 2)))))
def x__law_board : Cm → List Da → RM := fnX 2 3 y__law_board
def y__law_boarded : Env → SX := (zSeq (zIf (tB (eBin dEq (eBin dItem' (eVar 2) (eC (.int 0))) (eC (.str (Str.ofString "back"))))) (zSeq (zIf (tB (eBin dEq (eRd 4) (eLst aNil))) (zRet (xL (eC (.str (Str.ofString "nothing"))))) zNil)
  (zSeq (zExp (xPop 3))
  (zSeq (zExp (xMove 5 4))
  (zRet (xL (eBin dItem' (eRd 5) (eNeg (eC (.int 1))))))))) zNil)
  (zSeq (zIf (tAnd (tB (eBin dEq (eBin dItem' (eVar 2) (eC (.int 0))) (eC (.str (Str.ofString "again"))))) (tB (eBin dEq (eRd 5) (eLst aNil)))) (zRet (xL (eC (.str (Str.ofString "nothing"))))) zNil)
  (zSeq (zSet 6 (xL (eIf (tB (eBin dEq (eBin dItem' (eVar 2) (eC (.int 0))) (eC (.str (Str.ofString "jump"))))) (eBin dItem' (eVar 2) (eC (.int 1))) (eBin dItem' (eRd 5) (eNeg (eC (.int 1)))))))
  (zSeq (zOwn 7 (eBl (d1 dictD) (aCons (eCall m__law_moves (aCons (eVar 0) (aCons (eBin dItem' (eRd 3) (eNeg (eC (.int 1)))) aNil))) aNil)))
  (zSeq (zIf (tOr (tNot (tTru (eCall m__law_in (aCons (eVar 6) (aCons (eC (.int 0)) (aCons (eC (.int 15)) aNil)))))) (tB (eBin dNotIn' (eVar 6) (eRd 7)))) (zRet (xL (eC (.str (Str.ofString "jump"))))) zNil)
  (zSeq (zIf (tB (eBin dEq (eBin dItem' (eVar 2) (eC (.int 0))) (eC (.str (Str.ofString "jump"))))) (zExp (xClr 5)) (zExp (xPop 5)))
  (zSeq (zExp (xApp 3 (eBin dItem' (eRd 7) (eVar 6))))
  (zSeq (zExp (xApp 4 (eVar 6)))
  (zRet (xL (eIf (tB (eBin dEq (eBin dItem' (eVar 2) (eC (.int 0))) (eC (.str (Str.ofString "jump"))))) (eMs (s1D countS) (eBin dItem' (eRd 7) (eVar 6)) (aCons (eC (.str (Str.ofString "o"))) aNil)) (eVar 6))))))))))))
def x__law_boarded : Cm → List Da → RM := fnT y__law_boarded
end Mi

namespace Mi
open PySem PySem.Spec PyProof.Rows L2
theorem tB_ok {f : Env → R Da} {r : Env} {b : Bool} (h : f r = .ok (.bool b)) : tB f r = .ok b := by
  unfold tB
  rw [h]
  rfl
theorem tru_ok {f : Env → R Da} {r : Env} {d : Da} {b : Bool} (h : f r = .ok d) (h2 : truthD d = .ok b) : tTru f r = .ok b := by
  unfold tTru
  rw [h]
  exact h2
theorem not_ok {f : Env → R Bool} {r : Env} {b : Bool} (h : f r = .ok b) : tNot f r = .ok (!b) := by
  unfold tNot
  rw [h]
  rfl
theorem or_ok {f g : Env → R Bool} {r : Env} {b c : Bool} (h : f r = .ok b) (h2 : b = false → g r = .ok c) : tOr f g r = .ok (b || c) := by
  unfold tOr
  rw [h]
  cases b with
  | true => rfl
  | false => exact h2 rfl
theorem eand_ok {f g : Env → R Da} {r : Env} {b : Bool} {d : Da} (h : f r = .ok (.bool b)) (h2 : b = true → g r = .ok d) : eAnd f g r = .ok (if b then d else .bool false) := by
  unfold eAnd
  rw [h]
  cases b with
  | true => exact h2 rfl
  | false => rfl
theorem ent_ok {f : Env → R Da} {r : Env} {d : Da} {b : Bool} (h : f r = .ok d) (h2 : truthD d = .ok b) : eNt f r = .ok (.bool (!b)) := by
  unfold eNt
  rw [h]
  show (truthD d).bind _ = _
  rw [h2]
  rfl
theorem bl1_ok {g : Da → R Da} {f : Env → R Da} {r : Env} {d e : Da} (h : f r = .ok d) (h2 : g d = .ok e) : eBl (d1 g) (aCons f aNil) r = .ok e := by
  unfold eBl
  rw [cons_ok (ds := []) h rfl]
  show (g d).calm = _
  rw [h2]
  rfl
theorem tup_ok {f : Env → R (List Da)} {r : Env} {ds : List Da} (h : f r = .ok ds) (hl : ds.length ≤ 100000) : eTup f r = .ok (.tuple ds) := by
  unfold eTup mkT
  rw [h]
  show (if ds.length ≤ 100000 then R.ok (PyData.tuple ds) else .no) = _
  rw [if_pos hl]
theorem lst_ok {f : Env → R (List Da)} {r : Env} {ds : List Da} (h : f r = .ok ds) (hl : ds.length ≤ 100000) : eLst f r = .ok (.list ds) := by
  unfold eLst mkL
  rw [h]
  show (if ds.length ≤ 100000 then R.ok (PyData.list ds) else .no) = _
  rw [if_pos hl]
theorem eif_ok {c : Env → R Bool} {f g : Env → R Da} {r : Env} {b : Bool} {d : Da} (h : c r = .ok b) (h1 : b = true → f r = .ok d) (h2 : b = false → g r = .ok d) : eIf c f g r = .ok d := by
  unfold eIf
  rw [h]
  cases b with
  | true => exact h1 rfl
  | false => exact h2 rfl
theorem chain_ok {g g' : Da → Da → R Da} {fa fb fc : Env → R Da} {r : Env} {x y z : Da} {b c : Bool} (ha : fa r = .ok x) (hb : fb r = .ok y) (h1 : g x y = .ok (.bool b)) (hc : b = true → fc r = .ok z) (h2 : b = true → g' y z = .ok (.bool c)) : eChain g g' fa fb fc r = .ok (.bool (b && c)) := by
  unfold eChain
  rw [ha]
  show (fb r).bind _ = _
  rw [hb]
  show ((g x y).calm).bind _ = _
  rw [h1]
  cases b with
  | false => rfl
  | true =>
    show (fc r).bind _ = _
    rw [hc rfl]
    show (g' y z).calm = _
    rw [h2 rfl]
    rfl
theorem ret_ok {f : Env → R Da} {r : Env} {d : Da} (h : f r = .ok d) : sRet f r = .rt d := by
  unfold sRet
  rw [h]
  rfl
theorem if_t {c : Env → R Bool} {f g : Env → SR} {r : Env} (h : c r = .ok true) : sIf c f g r = f r := by
  unfold sIf
  rw [h]
  rfl
theorem if_f {c : Env → R Bool} {f g : Env → SR} {r : Env} (h : c r = .ok false) : sIf c f g r = g r := by
  unfold sIf
  rw [h]
  rfl
theorem exp_nx {f : Env → R Da} {r : Env} {d : Da} (h : f r = .ok d) : sExp f r = .nx r := by
  unfold sExp
  rw [h]
  rfl
theorem own_nx {i : Nat} {f : Env → R Da} {r : Env} {d : Da} (h : f r = .ok d) : sOwn i f r = .nx (r.set i (.ow d)) := by
  unfold sOwn
  rw [h]
  rfl
theorem app_nx {i : Nat} {f : Env → R Da} {r : Env} {ds : List Da} {d : Da} (h0 : r[i]? = some (.ow (.list ds))) (h : f r = .ok d) (hl : ds.length < 100000) : sApp i f r = .nx (r.set i (.ow (.list (ds ++ [d])))) := by
  unfold sApp
  rw [h0]
  show bS r (f r) _ = _
  rw [h]
  show (if ds.length < 100000 then SR.nx _ else .no) = _
  rw [if_pos hl]
theorem fn_rt {np n : Nat} {g : Env → SR} {ds : List Da} {d : Da} (hl : ds.length = np) (h : g (env0 n ds) = .rt d) : fnD np n g ds = .ok d := by
  unfold fnD
  rw [if_pos hl, h]
  rfl
theorem fn_nx {np n : Nat} {g : Env → SR} {ds : List Da} {r : Env} (hl : ds.length = np) (h : g (env0 n ds) = .nx r) : fnD np n g ds = .ok .none := by
  unfold fnD
  rw [if_pos hl, h]
  rfl
theorem frz_eq {i : Nat} {g : Env → SR} {r : Env} {ds : List Da} (h : r[i]? = some (.ow (.list ds))) : sFrz i g r = g (r.set i (.fz (.list ds))) := by
  unfold sFrz frzE
  rw [h]
theorem frzA_eq {i : Nat} {g : Env → SR} {r : Env} {d : Da} (h : r[i]? = some (.ow d)) : sFrzA i g r = g (r.set i (.fz d)) := by
  unfold sFrzA frzA
  rw [h]
theorem lcF_eq {g : Da → Env → Option Env} {ft : Env → R Bool} {fe : Env → R Da} {r : Env} {P : Da → Bool} {Y : Da → Da} : ∀ {ds : List Da}, (∀ d ∈ ds, ∃ r1, g d r = some r1 ∧ ft r1 = .ok (P d) ∧ (P d = true → fe r1 = .ok (Y d))) → lcF g ft fe r ds = .ok ((ds.filter P).map Y)
  | [], _ => rfl
  | d :: ds, h => by
    obtain ⟨r1, e1, e2, e3⟩ := h d List.mem_cons_self
    have ih := lcF_eq (ds := ds) fun x hx => h x (List.mem_cons_of_mem _ hx)
    unfold lcF
    rw [e1]
    show (ft r1).bind _ = _
    rw [e2]
    cases hp : P d with
    | false =>
      rw [List.filter_cons_of_neg (by rw [hp]; exact Bool.false_ne_true)]
      exact ih
    | true =>
      rw [List.filter_cons_of_pos hp, List.map_cons]
      show (fe r1).bind _ = _
      rw [e3 hp]
      show (lcF g ft fe r ds).bind _ = _
      rw [ih]
      rfl
theorem lc_ok {vs : List Nat} {fi : Env → R (List Da)} {g : Da → Env → Option Env} {ft : Env → R Bool} {fe : Env → R Da} {r : Env} {ds : List Da} {P : Da → Bool} {Y : Da → Da} (hi : fi r = .ok ds) (hl : ds.length ≤ 100000)
    (h : ∀ d ∈ ds, ∃ r1, g d (wipeE r vs) = some r1 ∧ ft r1 = .ok (P d) ∧ (P d = true → fe r1 = .ok (Y d))) : eLc vs fi g ft fe r = .ok (.list ((ds.filter P).map Y)) := by
  unfold eLc
  rw [hi]
  show (if ds.length ≤ 100000 then _ else _) = _
  rw [if_pos hl, lcF_eq h]
  rfl
theorem lc_all {vs : List Nat} {fi : Env → R (List Da)} {g : Da → Env → Option Env} {fe : Env → R Da} {r : Env} {ds : List Da} {Y : Da → Da} (hi : fi r = .ok ds) (hl : ds.length ≤ 100000)
    (h : ∀ d ∈ ds, ∃ r1, g d (wipeE r vs) = some r1 ∧ fe r1 = .ok (Y d)) : eLc vs fi g ftYes fe r = .ok (.list (ds.map Y)) := by
  have z := lc_ok (P := fun _ => true) (ft := ftYes) (fe := fe) (Y := Y) hi hl fun d hd => by
    obtain ⟨r1, e1, e2⟩ := h d hd
    exact ⟨r1, e1, rfl, fun _ => e2⟩
  rw [List.filter_eq_self.mpr fun _ _ => rfl] at z
  exact z
theorem for_nx {fi : Env → R (List Da)} {g : Da → Env → Option Env} {body : Env → SR} {r : Env} {ds : List Da} {x : SR} (hi : fi r = .ok ds) (h : loopF g body ds r = x) : sFor fi g body r = x := by
  unfold sFor
  rw [hi]
  exact h
end Mi

namespace Mi
open PySem PySem.Spec PyProof.Rows L2
abbrev Jm := Nat × Nat × Nat
structure Wd where
  n : Nat
  js : List Jm
def jl (j : Jm) : List Int := [(j.1 : Int), (j.2.1 : Int), (j.2.2 : Int)]
def encJ (j : Jm) : Da := .tuple [.int (j.1 : Int), .int (j.2.1 : Int), .int (j.2.2 : Int)]
def encW (w : Wd) : Da := .tuple [.int (w.n : Int), .tuple (w.js.map encJ)]
structure JOk (n : Nat) (j : Jm) : Prop where
  a : j.1 < n
  b : j.2.1 < n
  c : j.2.2 < n
  ab : j.1 ≠ j.2.1
  ac : j.1 ≠ j.2.2
  bc : j.2.1 ≠ j.2.2
structure WOk (w : Wd) : Prop where
  lo : 3 ≤ w.n
  hi : w.n ≤ 12
  len : w.js.length ≤ 16
  ok : ∀ j ∈ w.js, JOk w.n j
  srt : w.js.Pairwise fun a b => lexLtI (jl a) (jl b) = true
def ch (b : Bool) : Nat := if b then 111 else 46
def encS (s : List Bool) : Da := .str ⟨(s.map ch).toArray⟩

theorem within_ok (i lo hi : Int) : m_is_within [.int i, .int lo, .int hi] = .ok (.bool (decide (lo ≤ i) && decide (i ≤ hi))) := by
  refine fn_rt rfl ?_
  have h := eand_ok (f := eIsi "int" (eVar 0)) (g := eAnd (eNt (eIsi "bool" (eVar 0))) (eChain dLe dLe (eVar 1) (eVar 0) (eVar 2))) (r := env0 3 [.int i, .int lo, .int hi]) (b := true) (d := .bool (decide (lo ≤ i) && decide (i ≤ hi))) rfl fun _ => by
    have h2 := eand_ok (f := eNt (eIsi "bool" (eVar 0))) (g := eChain dLe dLe (eVar 1) (eVar 0) (eVar 2)) (r := env0 3 [.int i, .int lo, .int hi]) (b := true) (d := .bool (decide (lo ≤ i) && decide (i ≤ hi))) rfl fun _ => by
      exact chain_ok (x := .int lo) (y := .int i) (z := .int hi) rfl rfl rfl (fun _ => rfl) (fun _ => rfl)
    exact h2
  exact ret_ok h
theorem eqInt (a b : Int) : dEq (.int a) (.int b) = .ok (.bool (a == b)) := rfl
theorem neInt (a b : Int) : dNe (.int a) (.int b) = .ok (.bool (!(a == b))) := rfl
def badI (n : Int) : Da → Bool
  | .int i => !(decide (0 ≤ i) && decide (i ≤ n - 1))
  | _ => false
theorem is_jump_ok {n : Nat} {j : Jm} (h : JOk n j) : m_is_jump [.int (n : Int), encJ j] = .ok (.bool true) := by
  obtain ⟨a, b, c⟩ := j
  have h1 : a < n := h.a
  have h2 : b < n := h.b
  have h3 : c < n := h.c
  have h4 : a ≠ b := h.ab
  have h5 : a ≠ c := h.ac
  have h6 : b ≠ c := h.bc
  refine fn_rt rfl ?_
  rw [b_is_jump_eq]
  refine seq_nx (r' := env0 3 [.int (n : Int), encJ (a, b, c)]) ?_ ?_
  · refine (if_f ?_).trans rfl
    refine or_ok (b := false) (c := false) (not_ok (b := true) (tru_ok (d := .bool true) rfl rfl)) fun _ => ?_
    refine or_ok (b := false) (c := false) (tB_ok rfl) fun _ => ?_
    have hl := lc_ok (vs := [2]) (fi := iD (eVar 1)) (g := gNm 2) (ft := tNot (tTru (eCall m_is_within (aCons (eVar 2) (aCons (eC (.int 0)) (aCons (eBin dSub (eVar 0) (eC (.int 1))) aNil)))))) (fe := eVar 2) (r := env0 3 [.int (n : Int), encJ (a, b, c)])
      (ds := [.int (a : Int), .int (b : Int), .int (c : Int)]) (P := badI n) (Y := fun d => d) rfl (by simp) (fun d hd => by
        refine ⟨_, rfl, ?_, fun _ => rfl⟩
        have hd2 : ∃ i : Int, d = .int i := by
          simp only [List.mem_cons, List.not_mem_nil, or_false] at hd
          rcases hd with e | e | e <;> exact ⟨_, e⟩
        obtain ⟨i, rfl⟩ := hd2
        exact not_ok (tru_ok (d := .bool (decide (0 ≤ i) && decide (i ≤ (n : Int) - 1))) (call_ok (ds := [.int i, .int 0, .int ((n : Int) - 1)]) rfl (within_ok i 0 _)) rfl))
    have he : [PyData.int (a : Int), .int (b : Int), .int (c : Int)].filter (badI n) = [] := by
      have z : ∀ x : Nat, x < n → badI n (.int (x : Int)) = false := fun x hx => by
        show (!(decide ((0 : Int) ≤ x) && decide ((x : Int) ≤ n - 1))) = false
        rw [decide_eq_true (by omega), decide_eq_true (by omega)]
        rfl
      rw [List.filter_cons_of_neg (by rw [z a h1]; exact Bool.false_ne_true), List.filter_cons_of_neg (by rw [z b h2]; exact Bool.false_ne_true), List.filter_cons_of_neg (by rw [z c h3]; exact Bool.false_ne_true)]
      rfl
    rw [he] at hl
    exact tru_ok hl rfl
  · have hd : ddI [(a : Int), (b : Int), (c : Int)] = [(a : Int), (b : Int), (c : Int)] := by
      unfold ddI ddI ddI ddI
      rw [if_neg (by simp; omega), if_neg (by simp; omega), if_neg (by simp)]
    refine ret_ok (bin_ok (x := .int 3) (y := .int 3) ?_ rfl rfl)
    unfold eLs
    show lsD (encJ (a, b, c)) = _
    show (if [(a : Int), (b : Int), (c : Int)].length ≤ 1000 then R.ok (PyData.int ((ddI [(a : Int), (b : Int), (c : Int)]).length : Nat)) else .no) = _
    rw [hd]
    rfl
theorem zip_tail {α : Type} {Rl : α → α → Prop} : ∀ {l : List α}, l.Pairwise Rl → ∀ p ∈ l.zip (l.drop 1), Rl p.1 p.2
  | [], _, p, hp => by cases hp
  | [x], _, p, hp => by cases hp
  | x :: y :: l, h, p, hp => by
    obtain ⟨h1, h2⟩ := List.pairwise_cons.mp h
    have hp : p ∈ (x, y) :: (y :: l).zip l := hp
    rcases List.mem_cons.mp hp with rfl | hp
    · exact h1 y List.mem_cons_self
    · exact zip_tail h2 p hp
theorem cut1D (xs : List Da) : cutD xs (some 1) none = xs.drop 1 := by
  unfold cutD
  rw [show HT.sIx xs.length 0 (some 1) = min 1 xs.length from HT.sIx_nat xs.length 0 1, HT.sIx_none]
  cases xs with
  | nil => rfl
  | cons x r =>
    rw [show min 1 (x :: r).length = 1 by
      rw [List.length_cons]
      omega]
    show (List.take ((x :: r).length - 1) r) = r
    rw [List.length_cons, Nat.add_sub_cancel]
    exact List.take_length
def notJ (n : Int) (d : Da) : Bool := match m_is_jump [.int n, d] with
  | .ok (.bool b) => !b
  | _ => false
def geP : Da → Bool
  | .tuple [x, y] => match dGe x y with
    | .ok (.bool b) => b
    | _ => false
  | _ => false
theorem ge_J (a b : Jm) : dGe (encJ a) (encJ b) = .ok (.bool (!lexLtI (jl a) (jl b))) := rfl
theorem is_world_ok {w : Wd} (h : WOk w) : m_is_world [encW w] = .ok (.bool true) := by
  have hj : (w.js.map encJ).length = w.js.length := List.length_map _
  have hlen := h.len
  refine fn_rt rfl ?_
  rw [b_is_world_eq]
  refine seq_nx (r' := env0 3 [encW w]) ?_ (seq_nx (r' := env0 3 [encW w]) ?_ (seq_nx (r' := env0 3 [encW w]) ?_ ?_))
  · refine (if_f ?_).trans rfl
    refine or_ok (b := false) (c := false) (not_ok (b := true) (tru_ok (d := .bool true) rfl rfl)) fun _ => ?_
    refine or_ok (b := false) (c := false) (tB_ok rfl) fun _ => ?_
    have hw : m_is_within [.int (w.n : Int), .int 3, .int 12] = .ok (.bool true) := by
      rw [within_ok, decide_eq_true (by have := h.lo; omega), decide_eq_true (by have := h.hi; omega)]
      rfl
    exact not_ok (b := true) (tru_ok (d := .bool true) (call_ok (ds := [.int (w.n : Int), .int 3, .int 12]) rfl hw) rfl)
  · refine (if_f ?_).trans rfl
    refine or_ok (b := false) (c := false) (not_ok (b := true) (tru_ok (d := .bool true) rfl rfl)) fun _ => ?_
    refine tB_ok (bin_ok (x := .int ((w.js.map encJ).length : Nat)) (y := .int 16) rfl rfl ?_)
    show R.ok (PyData.bool (decide ((16 : Int) < ((w.js.map encJ).length : Nat)))) = _
    rw [decide_eq_false (by rw [hj]; omega)]
  · refine (if_f ?_).trans rfl
    have hl := lc_ok (vs := [1]) (fi := iD (eBin dItem' (eVar 0) (eC (.int 1)))) (g := gNm 1) (ft := tNot (tTru (eCall m_is_jump (aCons (eBin dItem' (eVar 0) (eC (.int 0))) (aCons (eVar 1) aNil))))) (fe := eVar 1) (r := env0 3 [encW w])
      (ds := w.js.map encJ) (P := notJ w.n) (Y := fun d => d) rfl (by rw [hj]; omega) (fun d hd => by
        obtain ⟨j, hjm, rfl⟩ := List.mem_map.mp hd
        refine ⟨_, rfl, ?_, fun _ => rfl⟩
        have e : notJ w.n (encJ j) = false := by
          unfold notJ
          rw [is_jump_ok (h.ok j hjm)]
          rfl
        rw [e]
        exact not_ok (b := true) (tru_ok (d := .bool true) (call_ok (ds := [.int (w.n : Int), encJ j]) rfl (is_jump_ok (h.ok j hjm))) rfl))
    have he : (w.js.map encJ).filter (notJ w.n) = [] := by
      rw [List.filter_eq_nil_iff]
      intro d hd
      obtain ⟨j, hjm, rfl⟩ := List.mem_map.mp hd
      unfold notJ
      rw [is_jump_ok (h.ok j hjm)]
      exact Bool.false_ne_true
    rw [he] at hl
    exact tru_ok hl rfl
  · have hz : iZip (eBin dItem' (eVar 0) (eC (.int 1))) (eSl (eBin dItem' (eVar 0) (eC (.int 1))) (oS (eC (.int 1))) oN) (env0 3 [encW w]) = .ok (((w.js.map encJ).zip ((w.js.map encJ).drop 1)).map fun p => PyData.tuple [p.1, p.2]) := by
      show zipD (.tuple (w.js.map encJ)) (.tuple (cutD (w.js.map encJ) (some 1) none)) = _
      rw [cut1D]
      rfl
    have ad : ∀ p ∈ (w.js.map encJ).zip ((w.js.map encJ).drop 1), ∃ a b, p = (encJ a, encJ b) ∧ lexLtI (jl a) (jl b) = true := fun p hp => by
      rw [← List.map_drop, List.zip_map] at hp
      obtain ⟨q, hq, rfl⟩ := List.mem_map.mp hp
      exact ⟨q.1, q.2, rfl, zip_tail h.srt q hq⟩
    have hl := lc_ok (vs := [1, 2]) (g := gTp (gsCons (gNm 1) (gsCons (gNm 2) gsNil)) 2) (ft := tB (eBin dGe (eVar 1) (eVar 2))) (fe := eC (.int 1)) (r := env0 3 [encW w]) (P := geP) (Y := fun _ => .int 1) hz (by
        rw [List.length_map, List.length_zip, hj]
        omega) (fun d hd => by
        obtain ⟨p, hp, rfl⟩ := List.mem_map.mp hd
        obtain ⟨a, b, rfl, hab⟩ := ad p hp
        refine ⟨_, rfl, ?_, fun _ => rfl⟩
        have e : geP (.tuple [encJ a, encJ b]) = false := by
          show (match dGe (encJ a) (encJ b) with | .ok (.bool b) => b | _ => false) = false
          rw [ge_J, hab]
          rfl
        show tB (eBin dGe (eVar 1) (eVar 2)) _ = .ok (geP (.tuple [encJ a, encJ b]))
        rw [e]
        refine tB_ok (bin_ok (x := encJ a) (y := encJ b) rfl rfl ?_)
        rw [ge_J, hab]
        rfl)
    have he : ((((w.js.map encJ).zip ((w.js.map encJ).drop 1)).map fun p => PyData.tuple [p.1, p.2])).filter geP = [] := by
      rw [List.filter_eq_nil_iff]
      intro d hd
      obtain ⟨p, hp, rfl⟩ := List.mem_map.mp hd
      obtain ⟨a, b, rfl, hab⟩ := ad p hp
      show ¬ (match dGe (encJ a) (encJ b) with | .ok (.bool b) => b | _ => false) = true
      rw [ge_J, hab]
      exact Bool.false_ne_true
    rw [he] at hl
    exact ret_ok (ent_ok hl rfl)
theorem look_ok {w : Wd} (h : WOk w) : m_look [encW w] = .ok .none := by
  refine fn_nx (r := env0 1 [encW w]) rfl ?_
  exact (if_f (not_ok (b := true) (tru_ok (d := .bool true) (call_ok (ds := [encW w]) rfl (is_world_ok h)) rfl))).trans rfl
theorem encS_len (s : List Bool) : (⟨(s.map ch).toArray⟩ : Str).length = s.length := by
  show (s.map ch).toArray.size = _
  simp
theorem encS_sg (s : List Bool) : sgD ⟨(s.map ch).toArray⟩ = s.map fun b => PyData.str ⟨#[ch b]⟩ := by
  unfold sgD
  show ((s.map ch).toArray.toList.map fun c => PyData.str ⟨#[c]⟩) = _
  rw [List.toList_toArray, List.map_map]
  rfl
def outO : Da → Bool
  | .str x => match x.cps.toList with
    | [c] => !decide (c ∈ (Str.ofString "o.").cps.toList)
    | _ => false
  | _ => false
theorem ch_in (b : Bool) : decide (ch b ∈ (Str.ofString "o.").cps.toList) = true := by cases b <;> decide +kernel
theorem is_stand_ok {w : Wd} {s : List Bool} (hs : s.length = w.n) (hn : w.n ≤ 12) : m_is_stand [encW w, encS s] = .ok (.bool true) := by
  refine fn_rt rfl ?_
  rw [b_is_stand_eq]
  have hl0 := encS_len s
  refine seq_nx (r' := env0 3 [encW w, encS s]) ?_ ?_
  · refine (if_f ?_).trans rfl
    refine or_ok (b := false) (c := false) (not_ok (b := true) (tru_ok (d := .bool true) rfl rfl)) fun _ => ?_
    refine tB_ok (bin_ok (x := .int ((⟨(s.map ch).toArray⟩ : Str).length : Nat)) (y := .int (w.n : Int)) (bl1_ok (d := encS s) rfl ?_) rfl ?_)
    · show (if (⟨(s.map ch).toArray⟩ : Str).length ≤ 100000 then R.ok _ else .no) = _
      rw [if_pos (by rw [hl0]; omega)]
    · rw [neInt, hl0, hs]
      simp
  · have hl := lc_ok (vs := [2]) (fi := iD (eVar 1)) (g := gNm 2) (ft := tB (eBin dNotIn' (eVar 2) (eC (.str (Str.ofString "o."))))) (fe := eVar 2) (r := env0 3 [encW w, encS s]) (ds := s.map fun b => PyData.str ⟨#[ch b]⟩) (P := outO) (Y := fun d => d)
      (by rw [← encS_sg]; rfl) (by rw [List.length_map]; omega) (fun d hd => by
        obtain ⟨b, _, rfl⟩ := List.mem_map.mp hd
        refine ⟨_, rfl, ?_, fun _ => rfl⟩
        exact tB_ok rfl)
    have he : (s.map fun b => PyData.str ⟨#[ch b]⟩).filter outO = [] := by
      rw [List.filter_eq_nil_iff]
      intro d hd
      obtain ⟨b, _, rfl⟩ := List.mem_map.mp hd
      show ¬ (!decide (ch b ∈ (Str.ofString "o.").cps.toList)) = true
      rw [ch_in]
      exact Bool.false_ne_true
    rw [he] at hl
    exact ret_ok (ent_ok hl rfl)
theorem look_stand_ok {w : Wd} {s : List Bool} (h : WOk w) (hs : s.length = w.n) : m_look_stand [encW w, encS s] = .ok .none := by
  refine fn_nx (r := env0 2 [encW w, encS s]) rfl ?_
  rw [b_look_stand_eq]
  refine seq_nx (exp_nx (d := .none) (call_ok (ds := [encW w]) rfl (look_ok h))) ?_
  exact (if_f (not_ok (b := true) (tru_ok (d := .bool true) (call_ok (ds := [encW w, encS s]) rfl (is_stand_ok hs h.hi)) rfl))).trans rfl
end Mi

namespace Mi
open PySem PySem.Spec PyProof.Rows L2
def sgn (b : Bool) : Da := .str ⟨#[ch b]⟩
def sgS (b : Bool) : Str := ⟨#[ch b]⟩
theorem encS_oo : (.str (Str.ofString "oo.") : Da) = encS [true, true, false] := by
  have e : Str.ofString "oo." = ⟨([true, true, false].map ch).toArray⟩ := by decide +kernel
  rw [e]
  rfl
theorem encS_dd : (.str (Str.ofString "..o") : Da) = encS [false, false, true] := by
  have e : Str.ofString "..o" = ⟨([false, false, true].map ch).toArray⟩ := by decide +kernel
  rw [e]
  rfl
theorem atI_nat' {α : Type} {xs : List α} {k : Nat} {d : α} (h : xs[k]? = some d) : atI xs (k : Int) = some d := by
  obtain ⟨hl, _⟩ := List.getElem?_eq_some_iff.mp h
  have e : ixN xs.length (k : Int) = some k := by
    unfold ixN
    rw [if_pos (by omega), if_pos (by omega), Int.toNat_natCast]
  unfold atI
  rw [e]
  exact h
theorem ix_nat {n k : Nat} (h : k < n) : ixD n (k : Int) = some k := by
  show ixN n (k : Int) = some k
  unfold ixN
  rw [if_pos (by omega), if_pos (by omega), Int.toNat_natCast]
theorem item_S {s : List Bool} {k : Nat} (h : k < s.length) (hl : s.length ≤ 100000) : dItem' (encS s) (.int (k : Int)) = .ok (sgn (s.getD k false)) := by
  show (if (⟨(s.map ch).toArray⟩ : Str).length ≤ 100000 then (match atI (s.map ch).toArray.toList (k : Int) with | some c => R.ok (PyData.str ⟨#[c]⟩) | none => .no) else .no) = _
  rw [if_pos (by rw [encS_len]; exact hl), List.toList_toArray, atI_nat' (d := ch (s.getD k false)) (by
    rw [List.getElem?_map, List.getElem?_eq_getElem h, List.getD_eq_getElem?_getD, List.getElem?_eq_getElem h]
    rfl)]
  rfl
def hasL (s : List Bool) (j : Jm) (x y z : Bool) : Bool := (s.getD j.1 false == x) && ((s.getD j.2.1 false == y) && (s.getD j.2.2 false == z))
theorem listS (s : List Bool) (hl : s.length ≤ 100000) : listD' (encS s) = .ok (.list (s.map sgn)) := by
  show (if (⟨(s.map ch).toArray⟩ : Str).length ≤ 100000 then R.ok (PyData.list (sgD ⟨(s.map ch).toArray⟩)) else .no) = _
  rw [if_pos (by rw [encS_len]; exact hl), encS_sg]
  rfl
theorem has_ok {s : List Bool} {j : Jm} {n : Nat} (hj : JOk n j) (hs : s.length = n) (hn : n ≤ 12) (x y z : Bool) : m_has [encS s, encJ j, encS [x, y, z]] = .ok (.bool (hasL s j x y z)) := by
  obtain ⟨a, b, c⟩ := j
  have h1 : a < s.length := by rw [hs]; exact hj.a
  have h2 : b < s.length := by rw [hs]; exact hj.b
  have h3 : c < s.length := by rw [hs]; exact hj.c
  have hl0 : s.length ≤ 100000 := by omega
  refine fn_rt rfl ?_
  have hl := lc_all (vs := [3]) (fi := iD (eVar 1)) (g := gNm 3) (fe := eBin dItem' (eVar 0) (eVar 3)) (r := env0 4 [encS s, encJ (a, b, c), encS [x, y, z]]) (ds := [.int (a : Int), .int (b : Int), .int (c : Int)])
    (Y := fun d => match d with | .int i => sgn (s.getD i.toNat false) | _ => .none) rfl (by simp) (fun d hd => by
      refine ⟨_, rfl, ?_⟩
      have hd2 : ∃ i : Nat, d = .int (i : Int) ∧ i < s.length := by
        simp only [List.mem_cons, List.not_mem_nil, or_false] at hd
        rcases hd with e | e | e
        · exact ⟨a, e, h1⟩
        · exact ⟨b, e, h2⟩
        · exact ⟨c, e, h3⟩
      obtain ⟨i, rfl, hi⟩ := hd2
      exact bin_ok (x := encS s) (y := .int (i : Int)) rfl rfl (item_S hi hl0))
  refine ret_ok (bin_ok hl (bl1_ok (d := encS [x, y, z]) rfl (listS _ (by simp))) ?_)
  show dEq (.list [sgn (s.getD (a : Int).toNat false), sgn (s.getD (b : Int).toNat false), sgn (s.getD (c : Int).toNat false)]) (.list [sgn x, sgn y, sgn z]) = _
  rw [Int.toNat_natCast, Int.toNat_natCast, Int.toNat_natCast]
  unfold hasL
  generalize s.getD a false = u1
  generalize s.getD b false = u2
  generalize s.getD c false = u3
  cases u1 <;> cases u2 <;> cases u3 <;> cases x <;> cases y <;> cases z <;> kernel_rfl
def putL (s : List Bool) (j : Jm) (x y z : Bool) : List Bool := ((s.set j.1 x).set j.2.1 y).set j.2.2 z
theorem putL_len (s : List Bool) (j : Jm) (x y z : Bool) : (putL s j x y z).length = s.length := by
  unfold putL
  rw [List.length_set, List.length_set, List.length_set]
theorem strs_sgn : ∀ s : List Bool, strsD (s.map sgn) = some (s.map sgS)
  | [] => rfl
  | b :: s => by
    show (strsD (s.map sgn)).map (sgS b :: ·) = _
    rw [strs_sgn s]
    rfl
theorem sum_sgS : ∀ s : List Bool, ((s.map sgS).map (·.length)).sum = s.length
  | [] => rfl
  | b :: s => by
    rw [List.map_cons, List.map_cons, List.sum_cons, sum_sgS s, List.length_cons]
    show 1 + s.length = _
    omega
theorem join_sgS : ∀ s : List Bool, Str.join (Str.ofString "") (s.map sgS) = ⟨(s.map ch).toArray⟩
  | [] => rfl
  | [b] => rfl
  | b :: c :: s => by
    have ih := join_sgS (c :: s)
    show sgS b ++ Str.ofString "" ++ Str.join (Str.ofString "") ((c :: s).map sgS) = _
    rw [ih]
    have e : Str.ofString "" = ⟨#[]⟩ := by decide +kernel
    rw [e]
    show (⟨#[ch b] ++ #[] ++ ((c :: s).map ch).toArray⟩ : Str) = _
    congr 1
    simp
theorem join_S {s : List Bool} (hl : s.length ≤ 100000) : joinD (Str.ofString "") [.list (s.map sgn)] = .ok (encS s) := by
  show joinL (Str.ofString "") (s.map sgn) = _
  unfold joinL
  rw [strs_sgn]
  show joinS _ _ = _
  unfold joinS
  have e : (Str.ofString "").length = 0 := by decide +kernel
  rw [sum_sgS, e, Nat.mul_zero, if_pos (by omega)]
  show R.ok (PyData.str (Builtin.Str.glued (Str.ofString "") (s.map sgS))) = _
  rw [StrLaws.glued_eq_join, join_sgS]
  rfl
end Mi

namespace Mi
open PySem PySem.Spec PyProof.Rows L2
theorem put_nx {i : Nat} {fi fv : Env → R Da} {r : Env} {ds : List Da} {d : Da} {k : Nat} (h0 : r[i]? = some (.ow (.list ds))) (hv : fv r = .ok d) (hi : fi r = .ok (.int (k : Int))) (hk : k < ds.length) : sPut i fi fv r = .nx (r.set i (.ow (.list (ds.set k d)))) := by
  unfold sPut
  rw [h0]
  show bS r (fv r) _ = _
  rw [hv]
  show bS r (fi r) _ = _
  rw [hi]
  show (match ixD ds.length (k : Int) with | some n => SR.nx (r.set i (.ow (.list (ds.set n d)))) | none => .no) = _
  rw [ix_nat hk]
theorem ms_ok {g : Str → List Da → R Da} {f : Env → R Da} {fs : Env → R (List Da)} {r : Env} {z : Str} {ds : List Da} {d : Da} (h1 : f r = .ok (.str z)) (h2 : fs r = .ok ds) (h3 : g z ds = .ok d) : eMs g f fs r = .ok d := by
  unfold eMs
  rw [h1]
  show (fs r).bind _ = _
  rw [h2]
  show (g z ds).calm = _
  rw [h3]
  rfl
theorem put_map (s : List Bool) (j : Jm) (x y z : Bool) : ((((s.map sgn).set j.1 (sgn x)).set j.2.1 (sgn y)).set j.2.2 (sgn z)) = (putL s j x y z).map sgn := by
  unfold putL
  rw [List.map_set, List.map_set, List.map_set]
theorem put_ok {s : List Bool} {j : Jm} {n : Nat} (hj : JOk n j) (hs : s.length = n) (hn : n ≤ 12) (x y z : Bool) : m_put [encS s, encJ j, encS [x, y, z]] = .ok (encS (putL s j x y z)) := by
  have hp := put_map s j x y z
  have hq := putL_len s j x y z
  obtain ⟨a, b, c⟩ := j
  have h1 : a < s.length := by rw [hs]; exact hj.a
  have h2 : b < s.length := by rw [hs]; exact hj.b
  have h3 : c < s.length := by rw [hs]; exact hj.c
  have hl0 : s.length ≤ 100000 := by omega
  have hm : (s.map sgn).length = s.length := List.length_map _
  refine fn_rt rfl ?_
  rw [b_put_eq]
  refine seq_nx (own_nx (bl1_ok (d := encS s) rfl (listS s hl0))) ?_
  refine seq_nx (r' := [.fz (encS s), .fz (encJ (a, b, c)), .fz (encS [x, y, z]), .ow (.list ((((s.map sgn).set a (sgn x)).set b (sgn y)).set c (sgn z))), .fz (.int (c : Int)), .fz (sgn z)]) ?_ ?_
  · refine for_nx (ds := [.tuple [.int (a : Int), sgn x], .tuple [.int (b : Int), sgn y], .tuple [.int (c : Int), sgn z]]) ?_ ?_
    · show zipD (encJ (a, b, c)) (encS [x, y, z]) = _
      show (R.bind (seqD (encS [x, y, z])) fun ys => R.ok (([PyData.int (a : Int), .int (b : Int), .int (c : Int)].zip ys).map fun p => PyData.tuple [p.1, p.2])) = _
      have e : seqD (encS [x, y, z]) = .ok [sgn x, sgn y, sgn z] := by
        show R.ok (sgD ⟨([x, y, z].map ch).toArray⟩) = _
        rw [encS_sg]
        rfl
      rw [e]
      rfl
    · show nextS (sPut 3 (eVar 4) (eVar 5) [.fz (encS s), .fz (encJ (a, b, c)), .fz (encS [x, y, z]), .ow (.list (s.map sgn)), .fz (.int (a : Int)), .fz (sgn x)]) _ = _
      rw [put_nx (ds := s.map sgn) (d := sgn x) (k := a) rfl rfl rfl (by rw [hm]; exact h1)]
      show nextS (sPut 3 (eVar 4) (eVar 5) [.fz (encS s), .fz (encJ (a, b, c)), .fz (encS [x, y, z]), .ow (.list ((s.map sgn).set a (sgn x))), .fz (.int (b : Int)), .fz (sgn y)]) _ = _
      rw [put_nx (ds := (s.map sgn).set a (sgn x)) (d := sgn y) (k := b) rfl rfl rfl (by rw [List.length_set, hm]; exact h2)]
      show nextS (sPut 3 (eVar 4) (eVar 5) [.fz (encS s), .fz (encJ (a, b, c)), .fz (encS [x, y, z]), .ow (.list (((s.map sgn).set a (sgn x)).set b (sgn y))), .fz (.int (c : Int)), .fz (sgn z)]) _ = _
      rw [put_nx (ds := ((s.map sgn).set a (sgn x)).set b (sgn y)) (d := sgn z) (k := c) rfl rfl rfl (by rw [List.length_set, List.length_set, hm]; exact h3)]
      rfl
  · refine ret_ok (ms_ok (z := Str.ofString "") (ds := [.list ((putL s (a, b, c) x y z).map sgn)]) rfl ?_ (join_S (by rw [hq]; exact hl0)))
    rw [← hp]
    rfl
theorem gput_nx {i : Nat} {fi : Env → R Da} {r : Env} {ds : List Da} {d : Da} {k : Nat} (h0 : r[i]? = some (.ow (.list ds))) (hi : fi r = .ok (.int (k : Int))) (hk : k < ds.length) : gPut i fi d r = .nx (r.set i (.ow (.list (ds.set k d)))) := by
  unfold gPut
  rw [h0]
  show bS r (fi r) _ = _
  rw [hi]
  show (match ixD ds.length (k : Int) with | some n => SR.nx (r.set i (.ow (.list (ds.set n d)))) | none => .no) = _
  rw [ix_nat hk]
theorem gm_nx {g : Da → Env → SR} {gs : List Da → Env → SR} {d : Da} {ds : List Da} {r r' : Env} {x : SR} (h : g d r = .nx r') (h2 : gs ds r' = x) : gmCons g gs (d :: ds) r = x := by
  show (match g d r with | .nx r' => gs ds r' | .er c r' => .er c r' | _ => .no) = _
  rw [h]
  exact h2
theorem law_put_ok {s : List Bool} {j : Jm} {n : Nat} (hj : JOk n j) (hs : s.length = n) (hn : n ≤ 12) (x y z : Bool) : m__law_put [encS s, encJ j, encS [x, y, z]] = .ok (encS (putL s j x y z)) := by
  have hp := put_map s j x y z
  have hq := putL_len s j x y z
  obtain ⟨a, b, c⟩ := j
  have h1 : a < s.length := by rw [hs]; exact hj.a
  have h2 : b < s.length := by rw [hs]; exact hj.b
  have h3 : c < s.length := by rw [hs]; exact hj.c
  have hl0 : s.length ≤ 100000 := by omega
  have hm : (s.map sgn).length = s.length := List.length_map _
  refine fn_rt rfl ?_
  rw [b__law_put_eq]
  refine seq_nx (own_nx (bl1_ok (d := encS s) rfl (listS s hl0))) ?_
  refine seq_nx (r' := [.fz (encS s), .fz (encJ (a, b, c)), .fz (encS [x, y, z]), .ow (.list ((((s.map sgn).set a (sgn x)).set b (sgn y)).set c (sgn z)))]) ?_ ?_
  · unfold b__law_put_1 sAsm
    show gmStr _ 3 (encS [x, y, z]) _ = _
    show (if (⟨([x, y, z].map ch).toArray⟩ : Str).cps.all (· < 128) = true ∧ (⟨([x, y, z].map ch).toArray⟩ : Str).cps.size = 3 then _ else SR.no) = _
    have hc : (⟨([x, y, z].map ch).toArray⟩ : Str).cps.all (· < 128) = true ∧ (⟨([x, y, z].map ch).toArray⟩ : Str).cps.size = 3 := by
      cases x <;> cases y <;> cases z <;> decide +kernel
    rw [if_pos hc, encS_sg]
    refine gm_nx (gput_nx (ds := s.map sgn) (k := a) rfl rfl (by rw [hm]; exact h1)) ?_
    refine gm_nx (gput_nx (ds := (s.map sgn).set a (sgn x)) (k := b) rfl rfl (by rw [List.length_set, hm]; exact h2)) ?_
    exact gm_nx (gput_nx (ds := ((s.map sgn).set a (sgn x)).set b (sgn y)) (k := c) rfl rfl (by rw [List.length_set, List.length_set, hm]; exact h3)) rfl
  · refine ret_ok (ms_ok (z := Str.ofString "") (ds := [.list ((putL s (a, b, c) x y z).map sgn)]) rfl ?_ (join_S (by rw [hq]; exact hl0)))
    rw [← hp]
    rfl
abbrev Mv := Nat × List Bool
def encM (m : Mv) : Da := .tuple [.int (m.1 : Int), encS m.2]
def stepsL (s : List Bool) (x y z x' y' z' : Bool) : Nat → List Jm → List Mv
  | _, [] => []
  | k, j :: js => if hasL s j x y z then (k, putL s j x' y' z') :: stepsL s x y z x' y' z' (k + 1) js else stepsL s x y z x' y' z' (k + 1) js
theorem stepsL_len (s : List Bool) (x y z x' y' z' : Bool) : ∀ (js : List Jm) (k : Nat), (stepsL s x y z x' y' z' k js).length ≤ js.length
  | [], _ => Nat.le_refl _
  | j :: js, k => by
    have := stepsL_len s x y z x' y' z' js (k + 1)
    unfold stepsL
    split
    · rw [List.length_cons, List.length_cons]
      omega
    · rw [List.length_cons]
      omega
abbrev movesL (w : Wd) (s : List Bool) : List Mv := stepsL s true true false false false true 0 w.js
abbrev backL (w : Wd) (s : List Bool) : List Mv := stepsL s false false true true true false 0 w.js
theorem enumF_cons (k : Nat) (d : Da) (ds : List Da) : enumF k (d :: ds) = .tuple [.int (k : Int), d] :: enumF (k + 1) ds := rfl
theorem mv_loop {w : Wd} {s : List Bool} (hs : s.length = w.n) (hn : w.n ≤ 12) (x y z x' y' z' : Bool) : ∀ (js : List Jm) (k : Nat) (acc : List Da) (A3 A4 : Sl), (∀ j ∈ js, JOk w.n j) → acc.length + js.length ≤ 1000 → ∃ A3' A4',
    loopF (gTp (gsCons (gNm 3) (gsCons (gNm 4) gsNil)) 2) (sIf (tTru (eCall m_has (aCons (eVar 1) (aCons (eVar 4) (aCons (eC (encS [x, y, z])) aNil))))) (sApp 2 (eTup (aCons (eVar 3) (aCons (eCall m_put (aCons (eVar 1) (aCons (eVar 4) (aCons (eC (encS [x', y', z'])) aNil)))) aNil)))) sNil) (enumF k (js.map encJ)) [.fz (encW w), .fz (encS s), .ow (.list acc), A3, A4]
      = .nx [.fz (encW w), .fz (encS s), .ow (.list (acc ++ (stepsL s x y z x' y' z' k js).map encM)), A3', A4']
  | [], k, acc, A3, A4, _, _ => ⟨A3, A4, by
    have e : acc ++ (stepsL s x y z x' y' z' k []).map encM = acc := List.append_nil acc
    rw [e]
    rfl⟩
  | j :: js, k, acc, A3, A4, hj, hl => by
    have hj0 := hj j List.mem_cons_self
    have hh := has_ok hj0 hs hn x y z
    rw [List.length_cons] at hl
    rw [List.map_cons, enumF_cons]
    show ∃ A3' A4', nextS (sIf _ _ _ [.fz (encW w), .fz (encS s), .ow (.list acc), .fz (.int (k : Int)), .fz (encJ j)]) _ = _
    have ht : tTru (eCall m_has (aCons (eVar 1) (aCons (eVar 4) (aCons (eC (encS [x, y, z])) aNil)))) [.fz (encW w), .fz (encS s), .ow (.list acc), .fz (.int (k : Int)), .fz (encJ j)] = .ok (hasL s j x y z) := tru_ok (d := .bool (hasL s j x y z)) (call_ok (ds := [encS s, encJ j, encS [x, y, z]]) rfl hh) rfl
    cases hb : hasL s j x y z with
    | false =>
      rw [hb] at ht
      rw [if_f ht]
      obtain ⟨B3, B4, ih⟩ := mv_loop hs hn x y z x' y' z' js (k + 1) acc (.fz (.int (k : Int))) (.fz (encJ j)) (fun q hq => hj q (List.mem_cons_of_mem _ hq)) (by omega)
      refine ⟨B3, B4, ?_⟩
      have e : stepsL s x y z x' y' z' k (j :: js) = stepsL s x y z x' y' z' (k + 1) js := by
        show (if hasL s j x y z then _ else _) = _
        rw [hb, if_neg Bool.false_ne_true]
      rw [e]
      exact ih
    | true =>
      rw [hb] at ht
      rw [if_t ht, app_nx (ds := acc) (d := encM (k, putL s j x' y' z')) rfl (tup_ok (ds := [.int (k : Int), encS (putL s j x' y' z')]) (cons_ok rfl (cons_ok (call_ok (ds := [encS s, encJ j, encS [x', y', z']]) rfl (put_ok hj0 hs hn x' y' z')) rfl)) (by simp)) (by omega)]
      obtain ⟨B3, B4, ih⟩ := mv_loop hs hn x y z x' y' z' js (k + 1) (acc ++ [encM (k, putL s j x' y' z')]) (.fz (.int (k : Int))) (.fz (encJ j)) (fun q hq => hj q (List.mem_cons_of_mem _ hq)) (by rw [List.length_append]; simp; omega)
      refine ⟨B3, B4, ?_⟩
      have e : stepsL s x y z x' y' z' k (j :: js) = (k, putL s j x' y' z') :: stepsL s x y z x' y' z' (k + 1) js := by
        show (if hasL s j x y z then _ else _) = _
        rw [hb, if_pos rfl]
      rw [List.append_assoc] at ih
      rw [e]
      exact ih
theorem moves_of_ok {w : Wd} {s : List Bool} (h : WOk w) (hs : s.length = w.n) : m_moves_of [encW w, encS s] = .ok (.list ((movesL w s).map encM)) := by
  refine fn_rt rfl ?_
  rw [b_moves_of_eq]
  refine seq_nx (own_nx (d := .list []) rfl) ?_
  have hlen := h.len
  obtain ⟨A3, A4, hl⟩ := mv_loop (w := w) (s := s) hs h.hi true true false false false true w.js 0 [] .un .un h.ok (by simp; omega)
  rw [← encS_oo, ← encS_dd] at hl
  refine seq_nx (for_nx (ds := enumF 0 (w.js.map encJ)) rfl hl) ?_
  show sFrzA 2 (sRet (eVar 2)) _ = _
  rw [frzA_eq (d := .list ((movesL w s).map encM)) rfl]
  rfl
end Mi

namespace Mi
open PySem PySem.Spec PyProof.Rows L2
abbrev stB : Env → SR := sIf (tB (eBin dEq (eBin dAdd (eBin dAdd (eBin dItem' (eVar 1) (eVar 6)) (eBin dItem' (eVar 1) (eVar 7))) (eBin dItem' (eVar 1) (eVar 8))) (eVar 2))) (sApp 4 (eTup (aCons (eVar 5) (aCons (eCall m__law_put (aCons (eVar 1) (aCons (eTup (aCons (eVar 6) (aCons (eVar 7) (aCons (eVar 8) aNil)))) (aCons (eVar 3) aNil)))) aNil)))) sNil
theorem add3 (a b c : Bool) : dAdd (sgn a) (sgn b) = .ok (.str (sgS a ++ sgS b)) ∧ dAdd (.str (sgS a ++ sgS b)) (sgn c) = .ok (.str (sgS a ++ sgS b ++ sgS c)) := by
  cases a <;> cases b <;> cases c <;> exact ⟨by kernel_rfl, by kernel_rfl⟩
theorem eq3 (a b c x y z : Bool) : dEq (.str (sgS a ++ sgS b ++ sgS c)) (encS [x, y, z]) = .ok (.bool ((a == x) && ((b == y) && (c == z)))) := by
  cases a <;> cases b <;> cases c <;> cases x <;> cases y <;> cases z <;> kernel_rfl
theorem st_loop {w : Wd} {s : List Bool} (hs : s.length = w.n) (hn : w.n ≤ 12) (x y z x' y' z' : Bool) : ∀ (js : List Jm) (k : Nat) (acc : List Da) (A5 A6 A7 A8 : Sl), (∀ j ∈ js, JOk w.n j) → acc.length + js.length ≤ 1000 → ∃ B5 B6 B7 B8,
    loopF (gTp (gsCons (gNm 5) (gsCons (gTp (gsCons (gNm 6) (gsCons (gNm 7) (gsCons (gNm 8) gsNil))) 3) gsNil)) 2) stB (enumF k (js.map encJ)) [.fz (encW w), .fz (encS s), .fz (encS [x, y, z]), .fz (encS [x', y', z']), .ow (.list acc), A5, A6, A7, A8]
      = .nx [.fz (encW w), .fz (encS s), .fz (encS [x, y, z]), .fz (encS [x', y', z']), .ow (.list (acc ++ (stepsL s x y z x' y' z' k js).map encM)), B5, B6, B7, B8]
  | [], k, acc, A5, A6, A7, A8, _, _ => ⟨A5, A6, A7, A8, by
    have e : acc ++ (stepsL s x y z x' y' z' k []).map encM = acc := List.append_nil acc
    rw [e]
    rfl⟩
  | j :: js, k, acc, A5, A6, A7, A8, hj, hl => by
    have hj0 := hj j List.mem_cons_self
    obtain ⟨a, b, c⟩ := j
    have h1 : a < s.length := by rw [hs]; exact hj0.a
    have h2 : b < s.length := by rw [hs]; exact hj0.b
    have h3 : c < s.length := by rw [hs]; exact hj0.c
    have hl0 : s.length ≤ 100000 := by omega
    rw [List.length_cons] at hl
    rw [List.map_cons, enumF_cons]
    show ∃ B5 B6 B7 B8, nextS (stB [.fz (encW w), .fz (encS s), .fz (encS [x, y, z]), .fz (encS [x', y', z']), .ow (.list acc), .fz (.int (k : Int)), .fz (.int (a : Int)), .fz (.int (b : Int)), .fz (.int (c : Int))]) _ = _
    have ht : tB (eBin dEq (eBin dAdd (eBin dAdd (eBin dItem' (eVar 1) (eVar 6)) (eBin dItem' (eVar 1) (eVar 7))) (eBin dItem' (eVar 1) (eVar 8))) (eVar 2)) [.fz (encW w), .fz (encS s), .fz (encS [x, y, z]), .fz (encS [x', y', z']), .ow (.list acc), .fz (.int (k : Int)), .fz (.int (a : Int)), .fz (.int (b : Int)), .fz (.int (c : Int))] = .ok (hasL s (a, b, c) x y z) := by
      have q := add3 (s.getD a false) (s.getD b false) (s.getD c false)
      exact tB_ok (bin_ok (bin_ok (bin_ok (bin_ok (x := encS s) (y := .int (a : Int)) rfl rfl (item_S h1 hl0)) (bin_ok (x := encS s) (y := .int (b : Int)) rfl rfl (item_S h2 hl0)) q.1) (bin_ok (x := encS s) (y := .int (c : Int)) rfl rfl (item_S h3 hl0)) q.2) (y := encS [x, y, z]) rfl (eq3 _ _ _ x y z))
    cases hb : hasL s (a, b, c) x y z with
    | false =>
      rw [hb] at ht
      rw [show stB _ = _ from if_f ht]
      obtain ⟨B5, B6, B7, B8, ih⟩ := st_loop hs hn x y z x' y' z' js (k + 1) acc (.fz (.int (k : Int))) (.fz (.int (a : Int))) (.fz (.int (b : Int))) (.fz (.int (c : Int))) (fun q hq => hj q (List.mem_cons_of_mem _ hq)) (by omega)
      refine ⟨B5, B6, B7, B8, ?_⟩
      have e : stepsL s x y z x' y' z' k ((a, b, c) :: js) = stepsL s x y z x' y' z' (k + 1) js := by
        show (if hasL s (a, b, c) x y z then _ else _) = _
        rw [hb, if_neg Bool.false_ne_true]
      rw [e]
      exact ih
    | true =>
      rw [hb] at ht
      rw [show stB _ = _ from if_t ht, app_nx (ds := acc) (d := encM (k, putL s (a, b, c) x' y' z')) rfl (tup_ok (ds := [.int (k : Int), encS (putL s (a, b, c) x' y' z')]) (cons_ok rfl (cons_ok (call_ok (ds := [encS s, encJ (a, b, c), encS [x', y', z']]) rfl (law_put_ok hj0 hs hn x' y' z')) rfl)) (by simp)) (by omega)]
      obtain ⟨B5, B6, B7, B8, ih⟩ := st_loop hs hn x y z x' y' z' js (k + 1) (acc ++ [encM (k, putL s (a, b, c) x' y' z')]) (.fz (.int (k : Int))) (.fz (.int (a : Int))) (.fz (.int (b : Int))) (.fz (.int (c : Int))) (fun q hq => hj q (List.mem_cons_of_mem _ hq)) (by rw [List.length_append]; simp; omega)
      refine ⟨B5, B6, B7, B8, ?_⟩
      have e : stepsL s x y z x' y' z' k ((a, b, c) :: js) = (k, putL s (a, b, c) x' y' z') :: stepsL s x y z x' y' z' (k + 1) js := by
        show (if hasL s (a, b, c) x y z then _ else _) = _
        rw [hb, if_pos rfl]
      rw [List.append_assoc] at ih
      rw [e]
      exact ih
theorem law_steps_ok {w : Wd} {s : List Bool} (h : WOk w) (hs : s.length = w.n) (x y z x' y' z' : Bool) : m__law_steps [encW w, encS s, encS [x, y, z], encS [x', y', z']] = .ok (.list ((stepsL s x y z x' y' z' 0 w.js).map encM)) := by
  refine fn_rt rfl ?_
  rw [b__law_steps_eq]
  refine seq_nx (own_nx (d := .list []) rfl) ?_
  have hlen := h.len
  obtain ⟨A5, A6, A7, A8, hl⟩ := st_loop (w := w) (s := s) hs h.hi x y z x' y' z' w.js 0 [] .un .un .un .un h.ok (by simp; omega)
  refine seq_nx (for_nx (ds := enumF 0 (w.js.map encJ)) rfl hl) ?_
  show sFrzA 4 (sRet (eVar 4)) _ = _
  rw [frzA_eq (d := .list ((stepsL s x y z x' y' z' 0 w.js).map encM)) rfl]
  rfl
theorem law_moves_ok {w : Wd} {s : List Bool} (h : WOk w) (hs : s.length = w.n) : m__law_moves [encW w, encS s] = .ok (.list ((movesL w s).map encM)) := by
  have q := law_steps_ok h hs true true false false false true
  rw [← encS_oo, ← encS_dd] at q
  exact fn_rt rfl (ret_ok (call_ok (ds := [encW w, encS s, .str (Str.ofString "oo."), .str (Str.ofString "..o")]) rfl q))
theorem encO : (.str (Str.ofString "o") : Da) = sgn true := by
  have e : Str.ofString "o" = ⟨#[ch true]⟩ := by decide +kernel
  rw [e]
  rfl
theorem encD : (.str (Str.ofString ".") : Da) = sgn false := by
  have e : Str.ofString "." = ⟨#[ch false]⟩ := by decide +kernel
  rw [e]
  rfl
end Mi

namespace Mi
open PySem PySem.Spec PyProof.Rows L2
theorem item_T {ds : List Da} {k : Nat} {d : Da} (h : ds[k]? = some d) : dItem' (.tuple ds) (.int (k : Int)) = .ok d := by
  show (match atD ds (k : Int) with | some d => R.ok d | none => .no) = _
  rw [atD_nat h]
theorem item_L {ds : List Da} {k : Nat} {d : Da} (h : ds[k]? = some d) : dItem' (.list ds) (.int (k : Int)) = .ok d := by
  show (match atD ds (k : Int) with | some d => R.ok d | none => .no) = _
  rw [atD_nat h]
def seedI (a k : Int) : Int := ((a * 1103515245 + 7919 * k + 12345) % 2147483647) ^ 5 % 2147483647
theorem seed_ok (a k : Int) : m__law_seed [.int a, .int k] = .ok (.int (seedI a k)) := by
  refine fn_rt rfl (ret_ok ?_)
  refine bin_ok (bin_ok (bin_ok (bin_ok (bin_ok (bin_ok (x := .int a) (y := .int 1103515245) rfl rfl (mul_ok (.inr (by decide)))) (bin_ok (x := .int 7919) (y := .int k) rfl rfl (mul_ok (.inl (by decide)))) rfl) (y := .int 12345) rfl rfl) (y := .int 2147483647) rfl (mod_ok (by decide))) (y := .int 5) rfl (pow_ok ⟨by decide, by decide, ?_⟩)) (y := .int 2147483647) rfl (mod_ok (by decide))
  have h1 := Int.emod_nonneg (a * 1103515245 + 7919 * k + 12345) (b := 2147483647) (by decide)
  have h2 := Int.emod_lt_of_pos (a * 1103515245 + 7919 * k + 12345) (b := 2147483647) (by decide)
  omega
theorem pick_ok (a m : Int) (hm : 0 < m) : m__law_pick [.int a, .int m] = .ok (.int (a / 97 % m)) := by
  refine fn_rt rfl (ret_ok ?_)
  exact bin_ok (bin_ok (x := .int a) (y := .int 97) rfl rfl (fdiv_ok ⟨by decide, by decide⟩)) (y := .int m) rfl (mod_ok hm)
end Mi

namespace Mi
open PySem PySem.Spec PyProof.Rows L2
def limI (seed : Int) : Int := match (seed / 5 % 3).toNat with
  | 0 => 5
  | 1 => 7
  | _ => 3
def pegI (seed : Int) (k : Nat) : Bool := decide (seedI seed (k : Int) / 97 % 9 < limI seed)
def standL (seed : Int) (n : Nat) : List Bool := (List.range n).map (pegI seed)
theorem standL_len (seed : Int) (n : Nat) : (standL seed n).length = n := by
  unfold standL
  rw [List.length_map, List.length_range]
theorem lim_ok (seed : Int) : dItem' (.list [.int 5, .int 7, .int 3]) (.int (seed / 5 % 3)) = .ok (.int (limI seed)) := by
  obtain ⟨a, ha, ea⟩ := md (seed / 5) 3 (by decide)
  have ea : seed / 5 % 3 = (a : Int) := ea
  unfold limI
  rw [ea, Int.toNat_natCast]
  match a, ha with
  | 0, _ => rfl
  | 1, _ => rfl
  | 2, _ => rfl
  | n + 3, h => omega
theorem rg0 {n : Nat} (h : n ≤ 1000000) : rgD 0 (n : Int) = .ok ((List.range n).map fun (i : Nat) => PyData.int (i : Int)) := by
  unfold rgD
  rw [if_pos (by omega)]
  have e : ((n : Int) - 0).toNat = n := by omega
  rw [e]
  congr 1
  refine List.map_congr_left fun i _ => ?_
  rw [Int.zero_add]
def pegD (seed : Int) : Da → Da
  | .int i => sgn (pegI seed i.toNat)
  | _ => .none
theorem stand_ok (seed : Int) {n : Nat} (hn : n ≤ 1000) : m__law_stand [.int seed, .int (n : Int)] = .ok (encS (standL seed n)) := by
  refine fn_rt rfl ?_
  unfold b__law_stand
  rw [encO, encD]
  have hl := lc_all (vs := [2]) (fi := iR1 (eVar 1)) (g := gNm 2) (fe := eIf (tB (eBin dLt (eCall m__law_pick (aCons (eCall m__law_seed (aCons (eVar 0) (aCons (eVar 2) aNil))) (aCons (eC (.int 9)) aNil))) (eBin dItem' (eLst (aCons (eC (.int 5)) (aCons (eC (.int 7)) (aCons (eC (.int 3)) aNil)))) (eBin dMod (eBin dFdiv (eVar 0) (eC (.int 5))) (eC (.int 3)))))) (eC (sgn true)) (eC (sgn false)))
    (r := env0 3 [.int seed, .int (n : Int)]) (ds := (List.range n).map fun (i : Nat) => PyData.int (i : Int)) (Y := pegD seed) (rg0 (by omega)) (by rw [List.length_map, List.length_range]; omega) (fun d hd => by
      obtain ⟨i, _, rfl⟩ := List.mem_map.mp hd
      refine ⟨_, rfl, ?_⟩
      have hp : pegD seed (.int (i : Int)) = sgn (pegI seed i) := by
        show sgn (pegI seed (i : Int).toNat) = _
        rw [Int.toNat_natCast]
      rw [hp]
      have ht : tB (eBin dLt (eCall m__law_pick (aCons (eCall m__law_seed (aCons (eVar 0) (aCons (eVar 2) aNil))) (aCons (eC (.int 9)) aNil))) (eBin dItem' (eLst (aCons (eC (.int 5)) (aCons (eC (.int 7)) (aCons (eC (.int 3)) aNil)))) (eBin dMod (eBin dFdiv (eVar 0) (eC (.int 5))) (eC (.int 3))))) [.fz (.int seed), .fz (.int (n : Int)), .fz (.int (i : Int))] = .ok (pegI seed i) := by
        refine tB_ok (bin_ok (x := .int (seedI seed (i : Int) / 97 % 9)) (y := .int (limI seed)) ?_ ?_ rfl)
        · exact call_ok (ds := [.int (seedI seed (i : Int)), .int 9]) (cons_ok (call_ok (ds := [.int seed, .int (i : Int)]) rfl (seed_ok _ _)) rfl) (pick_ok _ _ (by decide))
        · exact bin_ok (x := .list [.int 5, .int 7, .int 3]) rfl (bin_ok (bin_ok (x := .int seed) (y := .int 5) rfl rfl (fdiv_ok ⟨by decide, by decide⟩)) (y := .int 3) rfl (mod_ok (by decide))) (lim_ok seed)
      refine eif_ok ht (fun hb => ?_) (fun hb => ?_)
      · rw [hb]
        rfl
      · rw [hb]
        rfl)
  have e : ((List.range n).map fun (i : Nat) => PyData.int (i : Int)).map (pegD seed) = (standL seed n).map sgn := by
    unfold standL
    rw [List.map_map, List.map_map]
    refine List.map_congr_left fun i _ => ?_
    show sgn (pegI seed (i : Int).toNat) = sgn (pegI seed i)
    rw [Int.toNat_natCast]
  rw [e] at hl
  exact ret_ok (ms_ok (z := Str.ofString "") (ds := [.list ((standL seed n).map sgn)]) rfl (cons_ok hl rfl) (join_S (by rw [standL_len]; omega)))
end Mi

namespace Mi
open PySem PySem.Spec PyProof.Rows L2
theorem pull {α β : Type} {f : α → β} {P : α → Prop} : ∀ {l : List β}, (∀ k ∈ l, ∃ j, k = f j ∧ P j) → ∃ js : List α, l = js.map f ∧ ∀ j ∈ js, P j
  | [], _ => ⟨[], rfl, fun _ h => by cases h⟩
  | k :: l, h => by
    obtain ⟨j, e, p⟩ := h k List.mem_cons_self
    obtain ⟨js, e2, p2⟩ := pull (l := l) fun x hx => h x (List.mem_cons_of_mem _ hx)
    refine ⟨j :: js, by rw [List.map_cons, ← e, ← e2], fun q hq => ?_⟩
    rcases List.mem_cons.mp hq with rfl | hq
    · exact p
    · exact p2 q hq
theorem tups_J : ∀ js : List Jm, tupsI (js.map encJ) = some (js.map jl)
  | [] => rfl
  | j :: js => by
    show (match tupI (encJ j) with | none => none | some k => match tupsI (js.map encJ) with | none => none | some ks => some (k :: ks)) = _
    rw [tups_J js]
    rfl
theorem inB_J {n : Nat} (hn : n ≤ 12) {j : Jm} (h : JOk n j) : inB 3 1000 (jl j) = true := by
  obtain ⟨a, b, c⟩ := j
  have h1 : a < n := h.a
  have h2 : b < n := h.b
  have h3 : c < n := h.c
  show (([(a : Int), (b : Int), (c : Int)].length == 3) && [(a : Int), (b : Int), (c : Int)].all fun i => decide (0 ≤ i ∧ i < 1000)) = true
  simp only [List.all_cons, List.all_nil]
  rw [decide_eq_true (by omega), decide_eq_true (by omega), decide_eq_true (by omega)]
  rfl
theorem cut16 (xs : List Da) : cutD xs none (some 16) = xs.take 16 := by
  unfold cutD
  rw [HT.sIx_none, show HT.sIx xs.length xs.length (some 16) = min 16 xs.length from HT.sIx_nat xs.length xs.length 16, List.drop_zero, Nat.sub_zero]
  by_cases h : xs.length ≤ 16
  · rw [Nat.min_eq_right h, List.take_length, List.take_of_length_le h]
  · rw [Nat.min_eq_left (by omega)]
theorem world_of_raw {n : Nat} {raw : List Jm} (lo : 3 ≤ n) (hi : n ≤ 12) (ok : ∀ j ∈ raw, JOk n j) (hl : raw.length < 64) : ∃ w : Wd, WOk w ∧ w.n = n ∧ ∀ (A0 A1 A2 A5 A6 A7 A8 A9 A10 : Sl),
    b__law_world_4 [A0, A1, A2, .fz (.int (n : Int)), .ow (.list (raw.map encJ)), A5, A6, A7, A8, A9, A10] = .rt (encW w) := by
  obtain ⟨js, e, p⟩ := pull (f := jl) (P := fun j => JOk n j) (l := (ordL (raw.map jl)).take 16) fun k hk => by
    have hk := ordL_mem.mp (List.mem_of_mem_take hk)
    obtain ⟨j, hj, rfl⟩ := List.mem_map.mp hk
    exact ⟨j, rfl, ok j hj⟩
  refine ⟨⟨n, js⟩, ⟨lo, hi, ?_, p, ?_⟩, rfl, fun A0 A1 A2 A5 A6 A7 A8 A9 A10 => ?_⟩
  · have := congrArg List.length e
    rw [List.length_map, List.length_take] at this
    show js.length ≤ 16
    omega
  · have h1 : StrL ((ordL (raw.map jl)).take 16) := (ordL_str _).sublist (List.take_sublist _ _)
    rw [e] at h1
    exact List.pairwise_map.mp h1
  · have hs : eSs (eRd 4) [A0, A1, A2, .fz (.int (n : Int)), .ow (.list (raw.map encJ)), A5, A6, A7, A8, A9, A10] = .ok (.list ((ordL (raw.map jl)).map fun (k : List Int) => PyData.tuple (k.map PyData.int))) := by
      show ssD (.list (raw.map encJ)) = _
      show (match tupsI (raw.map encJ) with | some ks => if ks.length < 64 ∧ ks.all (inB 3 1000) = true then R.ok (PyData.list ((ordL ks).map fun (k : List Int) => PyData.tuple (k.map PyData.int))) else .no | none => .no) = _
      rw [tups_J]
      show (if (raw.map jl).length < 64 ∧ (raw.map jl).all (inB 3 1000) = true then _ else _) = _
      rw [if_pos ⟨by rw [List.length_map]; exact hl, List.all_eq_true.mpr fun k hk => by
        obtain ⟨j, hj, rfl⟩ := List.mem_map.mp hk
        exact inB_J hi (ok j hj)⟩]
    have ht : eSl (eBl (d1 tupleD) (aCons (eSs (eRd 4)) aNil)) oN (oS (eC (.int 16))) [A0, A1, A2, .fz (.int (n : Int)), .ow (.list (raw.map encJ)), A5, A6, A7, A8, A9, A10] = .ok (.tuple (js.map encJ)) := by
      unfold eSl
      rw [bl1_ok hs (show tupleD _ = .ok _ from rfl)]
      show (slD (.tuple ((ordL (raw.map jl)).map fun (k : List Int) => PyData.tuple (k.map PyData.int))) none (some 16)).calm = _
      show R.ok (PyData.tuple (cutD ((ordL (raw.map jl)).map fun (k : List Int) => PyData.tuple (k.map PyData.int)) none (some 16))) = _
      rw [cut16, ← List.map_take, e, List.map_map]
      rfl
    exact ret_ok (tup_ok (ds := [.int (n : Int), .tuple (js.map encJ)]) (cons_ok rfl (cons_ok ht rfl)) (by simp))
end Mi

namespace Mi
open PySem PySem.Spec PyProof.Rows L2
theorem cat_ok {f g : Env → R Da} {r : Env} {xs ys : List Da} (h1 : f r = .ok (.list xs)) (h2 : g r = .ok (.list ys)) (hl : xs.length + ys.length ≤ 100000) : eCat f g r = .ok (.list (xs ++ ys)) := by
  unfold eCat
  rw [h1]
  show (g r).bind _ = _
  rw [h2]
  show (if xs.length + ys.length ≤ 100000 then R.ok (PyData.list (xs ++ ys)) else .no) = _
  rw [if_pos hl]
abbrev bdA : Env → SR := sOwn 4 (eCat (eRd 4) (eLst (aCons (eTup (aCons (eVar 5) (aCons (eBin dAdd (eVar 5) (eC (.int 1))) (aCons (eBin dAdd (eVar 5) (eC (.int 2))) aNil)))) (aCons (eTup (aCons (eBin dAdd (eVar 5) (eC (.int 2))) (aCons (eBin dAdd (eVar 5) (eC (.int 1))) (aCons (eVar 5) aNil)))) aNil))))
theorem jok_up {n k : Nat} (h : k + 2 < n) : JOk n (k, k + 1, k + 2) := ⟨by show k < n; omega, by show k + 1 < n; omega, h, by show k ≠ k + 1; omega, by show k ≠ k + 2; omega, by show k + 1 ≠ k + 2; omega⟩
theorem jok_dn {n k : Nat} (h : k + 2 < n) : JOk n (k + 2, k + 1, k) := ⟨h, by show k + 1 < n; omega, by show k < n; omega, by show k + 2 ≠ k + 1; omega, by show k + 2 ≠ k; omega, by show k + 1 ≠ k; omega⟩
theorem wayA {n : Nat} (A0 A1 A2 A3 A6 A7 A8 A9 A10 : Sl) : ∀ (ks : List Nat) (raw : List Jm) (A5 : Sl), (∀ k ∈ ks, k + 2 < n) → (∀ j ∈ raw, JOk n j) → raw.length + 2 * ks.length ≤ 1000 → ∃ (raw' : List Jm) (A5' : Sl), (∀ j ∈ raw', JOk n j) ∧ raw'.length = raw.length + 2 * ks.length ∧
    loopF (gNm 5) bdA (ks.map fun (k : Nat) => PyData.int (k : Int)) [A0, A1, A2, A3, .ow (.list (raw.map encJ)), A5, A6, A7, A8, A9, A10] = .nx [A0, A1, A2, A3, .ow (.list (raw'.map encJ)), A5', A6, A7, A8, A9, A10]
  | [], raw, A5, _, hr, _ => ⟨raw, A5, hr, by simp, rfl⟩
  | k :: ks, raw, A5, hk, hr, hl => by
    have h0 := hk k List.mem_cons_self
    rw [List.length_cons] at hl
    have hb : bdA [A0, A1, A2, A3, .ow (.list (raw.map encJ)), .fz (.int (k : Int)), A6, A7, A8, A9, A10] = .nx [A0, A1, A2, A3, .ow (.list ((raw ++ [(k, k + 1, k + 2), (k + 2, k + 1, k)]).map encJ)), .fz (.int (k : Int)), A6, A7, A8, A9, A10] := by
      refine own_nx (d := .list ((raw ++ [(k, k + 1, k + 2), (k + 2, k + 1, k)]).map encJ)) ?_
      rw [List.map_append]
      refine cat_ok (xs := raw.map encJ) (ys := [encJ (k, k + 1, k + 2), encJ (k + 2, k + 1, k)]) rfl ?_ (by rw [List.length_map]; simp; omega)
      refine lst_ok (cons_ok (tup_ok (ds := [.int (k : Int), .int ((k + 1 : Nat) : Int), .int ((k + 2 : Nat) : Int)]) rfl (by simp)) (cons_ok (tup_ok (ds := [.int ((k + 2 : Nat) : Int), .int ((k + 1 : Nat) : Int), .int (k : Int)]) rfl (by simp)) rfl)) (by simp)
    obtain ⟨raw', A5', p1, p2, p3⟩ := wayA (n := n) A0 A1 A2 A3 A6 A7 A8 A9 A10 ks (raw ++ [(k, k + 1, k + 2), (k + 2, k + 1, k)]) (.fz (.int (k : Int))) (fun q hq => hk q (List.mem_cons_of_mem _ hq)) (fun j hj => by
      rcases List.mem_append.mp hj with hj | hj
      · exact hr j hj
      · simp only [List.mem_cons, List.not_mem_nil, or_false] at hj
        rcases hj with rfl | rfl
        · exact jok_up h0
        · exact jok_dn h0) (by rw [List.length_append]; simp; omega)
    refine ⟨raw', A5', p1, by rw [p2, List.length_append]; simp; omega, ?_⟩
    rw [List.map_cons]
    show nextS (bdA [A0, A1, A2, A3, .ow (.list (raw.map encJ)), .fz (.int (k : Int)), A6, A7, A8, A9, A10]) _ = _
    rw [hb]
    exact p3
end Mi

namespace Mi
open PySem PySem.Spec PyProof.Rows L2
theorem rep_ok {f g : Env → R Da} {r : Env} {ds : List Da} {b : Bool} (h1 : f r = .ok (.list ds)) (h2 : g r = .ok (.int (if b then 1 else 0))) (hl : ds.length ≤ 100) : eRep f g r = .ok (.list (if b then ds else [])) := by
  unfold eRep
  rw [h1]
  show (g r).bind _ = _
  rw [h2]
  cases b with
  | false =>
    show (if (0 : Int) ≤ 100000 ∧ -100000 ≤ (0 : Int) ∧ ds.length * (0 : Int).toNat ≤ 100000 then R.ok (PyData.list (List.replicate (0 : Int).toNat ds).flatten) else .no) = _
    rw [if_pos ⟨by decide, by decide, by show ds.length * 0 ≤ 100000; omega⟩]
    rfl
  | true =>
    show (if (1 : Int) ≤ 100000 ∧ -100000 ≤ (1 : Int) ∧ ds.length * (1 : Int).toNat ≤ 100000 then R.ok (PyData.list (List.replicate (1 : Int).toNat ds).flatten) else .no) = _
    rw [if_pos ⟨by decide, by decide, by show ds.length * 1 ≤ 100000; omega⟩]
    show R.ok (PyData.list (ds ++ [])) = _
    rw [List.append_nil]
    rfl
abbrev bdB1 : Env → SR := sOwn 4 (eCat (eRd 4) (eRep (eLst (aCons (eTup (aCons (eVar 5) (aCons (eBin dAdd (eVar 5) (eC (.int 1))) (aCons (eBin dAdd (eVar 5) (eC (.int 2))) aNil)))) aNil)) (eBl (d1 intD) (aCons (eAnd (eBin dLt (eBin dMod (eVar 5) (eC (.int 4))) (eC (.int 2))) (eBin dLt (eBin dAdd (eVar 5) (eC (.int 2))) (eVar 3))) aNil))))
abbrev bdB2 : Env → SR := sOwn 4 (eCat (eRd 4) (eRep (eLst (aCons (eTup (aCons (eVar 5) (aCons (eBin dAdd (eVar 5) (eC (.int 4))) (aCons (eBin dAdd (eVar 5) (eC (.int 8))) aNil)))) (aCons (eTup (aCons (eBin dAdd (eVar 5) (eC (.int 8))) (aCons (eBin dAdd (eVar 5) (eC (.int 4))) (aCons (eVar 5) aNil)))) aNil))) (eBl (d1 intD) (aCons (eBin dLt (eBin dAdd (eVar 5) (eC (.int 8))) (eVar 3)) aNil))))
def jsB1 (n k : Nat) : List Jm := if (decide ((k : Int) % 4 < 2) && decide ((k : Int) + 2 < (n : Int))) = true then [(k, k + 1, k + 2)] else []
def jsB2 (n k : Nat) : List Jm := if decide ((k : Int) + 8 < (n : Int)) = true then [(k, k + 4, k + 8), (k + 8, k + 4, k)] else []
theorem map_if (b : Bool) (l : List Jm) : (if b = true then l.map encJ else []) = (if b = true then l else []).map encJ := by cases b <;> rfl
theorem jsB1_ok {n k : Nat} : ∀ j ∈ jsB1 n k, JOk n j := fun j hj => by
  unfold jsB1 at hj
  by_cases c : (decide ((k : Int) % 4 < 2) && decide ((k : Int) + 2 < (n : Int))) = true
  · rw [if_pos c] at hj
    rw [Bool.and_eq_true] at c
    have := of_decide_eq_true c.2
    simp only [List.mem_cons, List.not_mem_nil, or_false] at hj
    subst hj
    exact jok_up (by omega)
  · rw [if_neg c] at hj
    cases hj
theorem jsB2_ok {n k : Nat} : ∀ j ∈ jsB2 n k, JOk n j := fun j hj => by
  unfold jsB2 at hj
  by_cases c : decide ((k : Int) + 8 < (n : Int)) = true
  · rw [if_pos c] at hj
    have := of_decide_eq_true c
    simp only [List.mem_cons, List.not_mem_nil, or_false] at hj
    rcases hj with rfl | rfl
    · exact ⟨by show k < n; omega, by show k + 4 < n; omega, by show k + 8 < n; omega, by show k ≠ k + 4; omega, by show k ≠ k + 8; omega, by show k + 4 ≠ k + 8; omega⟩
    · exact ⟨by show k + 8 < n; omega, by show k + 4 < n; omega, by show k < n; omega, by show k + 8 ≠ k + 4; omega, by show k + 8 ≠ k; omega, by show k + 4 ≠ k; omega⟩
  · rw [if_neg c] at hj
    cases hj
theorem jsB_len (n k : Nat) : (jsB1 n k).length ≤ 1 ∧ (jsB2 n k).length ≤ 2 := by
  unfold jsB1 jsB2
  constructor
  · split <;> simp
  · split <;> simp
theorem stB1 {n k : Nat} {raw : List Jm} (A0 A1 A2 A6 A7 A8 A9 A10 : Sl) (hl : raw.length ≤ 1000) : bdB1 [A0, A1, A2, .fz (.int (n : Int)), .ow (.list (raw.map encJ)), .fz (.int (k : Int)), A6, A7, A8, A9, A10] = .nx [A0, A1, A2, .fz (.int (n : Int)), .ow (.list ((raw ++ jsB1 n k).map encJ)), .fz (.int (k : Int)), A6, A7, A8, A9, A10] := by
  refine own_nx (d := .list ((raw ++ jsB1 n k).map encJ)) ?_
  have hc : eBl (d1 intD) (aCons (eAnd (eBin dLt (eBin dMod (eVar 5) (eC (.int 4))) (eC (.int 2))) (eBin dLt (eBin dAdd (eVar 5) (eC (.int 2))) (eVar 3))) aNil) [A0, A1, A2, .fz (.int (n : Int)), .ow (.list (raw.map encJ)), .fz (.int (k : Int)), A6, A7, A8, A9, A10] = .ok (.int (if (decide ((k : Int) % 4 < 2) && decide ((k : Int) + 2 < (n : Int))) then 1 else 0)) := by
    refine bl1_ok (d := .bool (decide ((k : Int) % 4 < 2) && decide ((k : Int) + 2 < (n : Int)))) ?_ rfl
    have q := eand_ok (f := eBin dLt (eBin dMod (eVar 5) (eC (.int 4))) (eC (.int 2))) (g := eBin dLt (eBin dAdd (eVar 5) (eC (.int 2))) (eVar 3)) (r := [A0, A1, A2, .fz (.int (n : Int)), .ow (.list (raw.map encJ)), .fz (.int (k : Int)), A6, A7, A8, A9, A10]) (b := decide ((k : Int) % 4 < 2)) (d := .bool (decide ((k : Int) + 2 < (n : Int))))
      (bin_ok (bin_ok (x := .int (k : Int)) (y := .int 4) rfl rfl (mod_ok (by decide))) (y := .int 2) rfl rfl) fun _ => bin_ok (x := .int ((k : Int) + 2)) (y := .int (n : Int)) rfl rfl rfl
    rw [q]
    cases decide ((k : Int) % 4 < 2) <;> rfl
  have e : (raw ++ jsB1 n k).map encJ = raw.map encJ ++ (if (decide ((k : Int) % 4 < 2) && decide ((k : Int) + 2 < (n : Int))) = true then [encJ (k, k + 1, k + 2)] else []) := by
    rw [List.map_append]
    unfold jsB1
    rw [← map_if]
    rfl
  rw [e]
  refine cat_ok rfl (rep_ok (lst_ok (cons_ok (tup_ok (ds := [.int (k : Int), .int ((k + 1 : Nat) : Int), .int ((k + 2 : Nat) : Int)]) rfl (by simp)) rfl) (by simp)) hc (by simp)) ?_
  rw [List.length_map]
  split <;> simp <;> omega
theorem stB2 {n k : Nat} {raw : List Jm} (A0 A1 A2 A6 A7 A8 A9 A10 : Sl) (hl : raw.length ≤ 1000) : bdB2 [A0, A1, A2, .fz (.int (n : Int)), .ow (.list (raw.map encJ)), .fz (.int (k : Int)), A6, A7, A8, A9, A10] = .nx [A0, A1, A2, .fz (.int (n : Int)), .ow (.list ((raw ++ jsB2 n k).map encJ)), .fz (.int (k : Int)), A6, A7, A8, A9, A10] := by
  refine own_nx (d := .list ((raw ++ jsB2 n k).map encJ)) ?_
  have hc : eBl (d1 intD) (aCons (eBin dLt (eBin dAdd (eVar 5) (eC (.int 8))) (eVar 3)) aNil) [A0, A1, A2, .fz (.int (n : Int)), .ow (.list (raw.map encJ)), .fz (.int (k : Int)), A6, A7, A8, A9, A10] = .ok (.int (if decide ((k : Int) + 8 < (n : Int)) then 1 else 0)) :=
    bl1_ok (d := .bool (decide ((k : Int) + 8 < (n : Int)))) (bin_ok (x := .int ((k : Int) + 8)) (y := .int (n : Int)) rfl rfl rfl) rfl
  have e : (raw ++ jsB2 n k).map encJ = raw.map encJ ++ (if decide ((k : Int) + 8 < (n : Int)) = true then [encJ (k, k + 4, k + 8), encJ (k + 8, k + 4, k)] else []) := by
    rw [List.map_append]
    unfold jsB2
    rw [← map_if]
    rfl
  rw [e]
  refine cat_ok rfl (rep_ok (lst_ok (cons_ok (tup_ok (ds := [.int (k : Int), .int ((k + 4 : Nat) : Int), .int ((k + 8 : Nat) : Int)]) rfl (by simp)) (cons_ok (tup_ok (ds := [.int ((k + 8 : Nat) : Int), .int ((k + 4 : Nat) : Int), .int (k : Int)]) rfl (by simp)) rfl)) (by simp)) hc (by simp)) ?_
  rw [List.length_map]
  split <;> simp <;> omega
theorem wayB {n : Nat} (A0 A1 A2 A6 A7 A8 A9 A10 : Sl) : ∀ (ks : List Nat) (raw : List Jm) (A5 : Sl), (∀ j ∈ raw, JOk n j) → raw.length + 3 * ks.length ≤ 1000 → ∃ (raw' : List Jm) (A5' : Sl), (∀ j ∈ raw', JOk n j) ∧ raw'.length ≤ raw.length + 3 * ks.length ∧
    loopF (gNm 5) (sSeq bdB1 bdB2) (ks.map fun (k : Nat) => PyData.int (k : Int)) [A0, A1, A2, .fz (.int (n : Int)), .ow (.list (raw.map encJ)), A5, A6, A7, A8, A9, A10] = .nx [A0, A1, A2, .fz (.int (n : Int)), .ow (.list (raw'.map encJ)), A5', A6, A7, A8, A9, A10]
  | [], raw, A5, hr, _ => ⟨raw, A5, hr, by simp, rfl⟩
  | k :: ks, raw, A5, hr, hl => by
    rw [List.length_cons] at hl
    have hb := jsB_len n k
    obtain ⟨raw', A5', p1, p2, p3⟩ := wayB (n := n) A0 A1 A2 A6 A7 A8 A9 A10 ks ((raw ++ jsB1 n k) ++ jsB2 n k) (.fz (.int (k : Int))) (fun j hj => by
      rcases List.mem_append.mp hj with hj | hj
      · rcases List.mem_append.mp hj with hj | hj
        · exact hr j hj
        · exact jsB1_ok j hj
      · exact jsB2_ok j hj) (by rw [List.length_append, List.length_append]; omega)
    refine ⟨raw', A5', p1, by rw [List.length_append, List.length_append] at p2; rw [List.length_cons]; omega, ?_⟩
    rw [List.map_cons]
    show nextS (sSeq bdB1 bdB2 [A0, A1, A2, .fz (.int (n : Int)), .ow (.list (raw.map encJ)), .fz (.int (k : Int)), A6, A7, A8, A9, A10]) _ = _
    rw [seq_nx (stB1 A0 A1 A2 A6 A7 A8 A9 A10 (by omega)) (stB2 A0 A1 A2 A6 A7 A8 A9 A10 (by rw [List.length_append]; omega))]
    exact p3
end Mi

namespace Mi
open PySem PySem.Spec PyProof.Rows L2
theorem cellC (ns : List Int) (k : Nat) : m__law_cell [.list (ns.map PyData.int), .int (k : Int)] = .ok (.int (ns.getD k 0)) := cell_of ns k
theorem notIn2 (c b o : Int) : dNotIn' (.int c) (.tuple [.int b, .int o]) = .ok (.bool (!((b == c) || ((o == c) || false)))) := rfl
def freeC (b o : Nat) : Da → Bool
  | .int c => !(((b : Int) == c) || (((o : Int) == c) || false))
  | _ => false
def restL (n b o : Nat) : List Nat := (List.range n).filter fun c => !(b == c) && !(o == c)
theorem rest_eq (n b o : Nat) : (((List.range n).map fun (i : Nat) => PyData.int (i : Int)).filter (freeC b o)).map (fun d => d) = (restL n b o).map fun (i : Nat) => PyData.int (i : Int) := by
  unfold restL
  rw [List.map_id', List.filter_map]
  congr 1
  refine List.filter_congr fun c _ => ?_
  show (!(((b : Int) == (c : Int)) || (((o : Int) == (c : Int)) || false))) = _
  have e1 : ((b : Int) == (c : Int)) = (b == c) := by
    by_cases h : b = c
    · subst h
      simp
    · rw [beq_eq_false_iff_ne.mpr h, beq_eq_false_iff_ne.mpr (by omega)]
  have e2 : ((o : Int) == (c : Int)) = (o == c) := by
    by_cases h : o = c
    · subst h
      simp
    · rw [beq_eq_false_iff_ne.mpr h, beq_eq_false_iff_ne.mpr (by omega)]
  rw [e1, e2]
  cases (b == c) <;> cases (o == c) <;> rfl
theorem rest_mem {n b o c : Nat} : c ∈ restL n b o ↔ c < n ∧ c ≠ b ∧ c ≠ o := by
  unfold restL
  rw [List.mem_filter, List.mem_range]
  constructor
  · rintro ⟨h1, h2⟩
    rw [Bool.and_eq_true] at h2
    have a1 : ¬ b = c := by simpa using h2.1
    have a2 : ¬ o = c := by simpa using h2.2
    exact ⟨h1, fun e => a1 e.symm, fun e => a2 e.symm⟩
  · rintro ⟨h1, h2, h3⟩
    refine ⟨h1, ?_⟩
    rw [Bool.and_eq_true]
    exact ⟨by simpa using fun e => h2 e.symm, by simpa using fun e => h3 e.symm⟩
theorem rest_pos {n b o : Nat} (h : 3 ≤ n) : 0 < (restL n b o).length := by
  have ex : ∃ c, c < n ∧ c ≠ b ∧ c ≠ o := by
    by_cases h0 : (0 ≠ b ∧ 0 ≠ o)
    · exact ⟨0, by omega, h0⟩
    · by_cases h1 : (1 ≠ b ∧ 1 ≠ o)
      · exact ⟨1, by omega, h1⟩
      · exact ⟨2, by omega, by omega, by omega⟩
  obtain ⟨c, hc⟩ := ex
  exact List.length_pos_of_mem (rest_mem.mpr hc)
abbrev bdC : Env → SR := sSeq (sSet 6 (eCall m__law_seed (aCons (eBin dAdd (eCall m__law_cell (aCons (eVar 0) (aCons (eBin dAdd (eBin dAdd (eVar 1) (eC (.int 1))) (eBin dMod (eVar 5) (eC (.int 3)))) aNil))) (eBin dMulI (eC (.int 41)) (eVar 5))) (aCons (eVar 5) aNil))))
  (sSeq (sSet 7 (eBin dMod (eBin dFdiv (eVar 6) (eC (.int 5))) (eVar 3)))
  (sSeq (sSet 8 (eBin dMod (eBin dAdd (eBin dAdd (eVar 7) (eC (.int 1))) (eBin dMod (eBin dFdiv (eVar 6) (eC (.int 7))) (eBin dSub (eVar 3) (eC (.int 1))))) (eVar 3)))
  (sSeq (sOwn 9 (eLc [10] (iR1 (eVar 3)) (gNm 10) (tB (eBin dNotIn' (eVar 10) (eTup (aCons (eVar 7) (aCons (eVar 8) aNil))))) (eVar 10)))
  (sFrz 9 (sApp 4 (eTup (aCons (eVar 7) (aCons (eVar 8) (aCons (eBin dItem' (eVar 9) (eBin dMod (eBin dFdiv (eVar 6) (eC (.int 11))) (eBl (d1 lenD) (aCons (eVar 9) aNil)))) aNil)))))))))
theorem stC {ns : List Int} {at_ n k : Nat} {raw : List Jm} (lo : 3 ≤ n) (hi : n ≤ 12) (hl : raw.length ≤ 1000) (A2 A6 A7 A8 A9 A10 : Sl) : ∃ (j : Jm) (B6 B7 B8 B9 B10 : Sl), JOk n j ∧
    bdC [.fz (.list (ns.map PyData.int)), .fz (.int (at_ : Int)), A2, .fz (.int (n : Int)), .ow (.list (raw.map encJ)), .fz (.int (k : Int)), A6, A7, A8, A9, A10] = .nx [.fz (.list (ns.map PyData.int)), .fz (.int (at_ : Int)), A2, .fz (.int (n : Int)), .ow (.list ((raw ++ [j]).map encJ)), .fz (.int (k : Int)), B6, B7, B8, B9, B10] := by
  let one : Int := seedI (ns.getD (at_ + 1 + k % 3) 0 + 41 * (k : Int)) (k : Int)
  obtain ⟨b, hb, eb⟩ := md (one / 5) n (by omega)
  obtain ⟨c, hc, ec⟩ := md (one / 7) (n - 1) (by omega)
  obtain ⟨o, ho, eo⟩ := md ((b : Int) + 1 + (c : Int)) n (by omega)
  have hbo : b ≠ o := by
    intro e
    subst e
    have h1 : ((b : Int) + 1 + (c : Int)) % (n : Int) = (b : Int) := eo
    by_cases hlt : b + 1 + c < n
    · rw [Int.emod_eq_of_lt (by omega) (by omega)] at h1
      omega
    · have h2 : ((b : Int) + 1 + (c : Int)) = ((b : Int) + 1 + (c : Int) - n) + n := by omega
      rw [h2, Int.add_emod_right, Int.emod_eq_of_lt (by omega) (by omega)] at h1
      omega
  have hpos := rest_pos (b := b) (o := o) lo
  obtain ⟨i, hi2, ei⟩ := md (one / 11) (restL n b o).length hpos
  have hmem : (restL n b o)[i] ∈ restL n b o := List.getElem_mem hi2
  obtain ⟨m1, m2, m3⟩ := rest_mem.mp hmem
  refine ⟨(b, o, (restL n b o)[i]), .fz (.int one), .fz (.int (b : Int)), .fz (.int (o : Int)), .fz (.list ((restL n b o).map fun (i : Nat) => PyData.int (i : Int))), A10, ⟨hb, ho, m1, hbo, fun e => m2 e.symm, fun e => m3 e.symm⟩, ?_⟩
  have hrl : (restL n b o).length ≤ n := by
    unfold restL
    refine Nat.le_trans (List.length_filter_le _ _) ?_
    rw [List.length_range]
    exact Nat.le_refl _
  refine seq_nx (set_nx (d := .int one) ?_) (seq_nx (set_nx (d := .int (b : Int)) ?_) (seq_nx (set_nx (d := .int (o : Int)) ?_) (seq_nx (own_nx (d := .list ((restL n b o).map fun (i : Nat) => PyData.int (i : Int))) ?_) ?_)))
  · have hidx : dMod (.int (k : Int)) (.int 3) = .ok (.int ((k : Int) % 3)) := mod_ok (by decide)
    have hcell := cellC ns (at_ + 1 + k % 3)
    have ecast : (((at_ + 1 + k % 3 : Nat)) : Int) = (at_ : Int) + 1 + (k : Int) % 3 := by omega
    rw [ecast] at hcell
    refine call_ok (ds := [.int (ns.getD (at_ + 1 + k % 3) 0 + 41 * (k : Int)), .int (k : Int)]) (cons_ok (bin_ok (call_ok (ds := [.list (ns.map PyData.int), .int ((at_ : Int) + 1 + (k : Int) % 3)]) (cons_ok rfl (cons_ok (bin_ok (x := .int ((at_ : Int) + 1)) rfl (bin_ok (x := .int (k : Int)) (y := .int 3) rfl rfl hidx) rfl) rfl)) hcell) (bin_ok (x := .int 41) (y := .int (k : Int)) rfl rfl (mul_ok (.inl (by decide)))) rfl) (cons_ok rfl rfl)) (seed_ok _ _)
  · rw [← eb]
    exact bin_ok (bin_ok (x := .int one) (y := .int 5) rfl rfl (fdiv_ok ⟨by decide, by decide⟩)) (y := .int (n : Int)) rfl (mod_ok (by omega))
  · rw [← eo, ← ec]
    have en : ((n - 1 : Nat) : Int) = (n : Int) - 1 := by omega
    rw [en]
    exact bin_ok (bin_ok (x := .int ((b : Int) + 1)) rfl (bin_ok (bin_ok (x := .int one) (y := .int 7) rfl rfl (fdiv_ok ⟨by decide, by decide⟩)) (y := .int ((n : Int) - 1)) rfl (mod_ok (by omega))) rfl) (y := .int (n : Int)) rfl (mod_ok (by omega))
  · have hlc := lc_ok (vs := [10]) (fi := iR1 (eVar 3)) (g := gNm 10) (ft := tB (eBin dNotIn' (eVar 10) (eTup (aCons (eVar 7) (aCons (eVar 8) aNil))))) (fe := eVar 10) (r := [.fz (.list (ns.map PyData.int)), .fz (.int (at_ : Int)), A2, .fz (.int (n : Int)), .ow (.list (raw.map encJ)), .fz (.int (k : Int)), .fz (.int one), .fz (.int (b : Int)), .fz (.int (o : Int)), A9, A10])
      (ds := (List.range n).map fun (i : Nat) => PyData.int (i : Int)) (P := freeC b o) (Y := fun d => d) (rg0 (by omega)) (by rw [List.length_map, List.length_range]; omega) (fun d hd => by
        obtain ⟨x, _, rfl⟩ := List.mem_map.mp hd
        refine ⟨_, rfl, ?_, fun _ => rfl⟩
        exact tB_ok (bin_ok (x := .int (x : Int)) (y := .tuple [.int (b : Int), .int (o : Int)]) rfl rfl (notIn2 _ _ _)))
    rw [rest_eq] at hlc
    exact hlc
  · show sFrz 9 _ _ = _
    rw [frz_eq (ds := (restL n b o).map fun (i : Nat) => PyData.int (i : Int)) rfl]
    refine (app_nx (ds := raw.map encJ) (d := encJ (b, o, (restL n b o)[i])) rfl ?_ (by rw [List.length_map]; omega)).trans ?_
    · refine tup_ok (ds := [.int (b : Int), .int (o : Int), .int ((restL n b o)[i] : Int)]) (cons_ok rfl (cons_ok rfl (cons_ok ?_ rfl))) (by simp)
      refine bin_ok (x := .list ((restL n b o).map fun (i : Nat) => PyData.int (i : Int))) (y := .int (i : Int)) rfl ?_ (item_L (by rw [List.getElem?_map, List.getElem?_eq_getElem hi2]; rfl))
      rw [← ei]
      refine bin_ok (bin_ok (x := .int one) (y := .int 11) rfl rfl (fdiv_ok ⟨by decide, by decide⟩)) (y := .int ((restL n b o).length : Int)) (bl1_ok (d := .list ((restL n b o).map fun (i : Nat) => PyData.int (i : Int))) rfl ?_) (mod_ok (by omega))
      show R.ok (PyData.int ((((restL n b o).map fun (i : Nat) => PyData.int (i : Int)).length : Nat) : Int)) = _
      rw [List.length_map]
    · rw [List.map_append]
      rfl
end Mi

namespace Mi
open PySem PySem.Spec PyProof.Rows L2
theorem wayC {ns : List Int} {at_ n : Nat} (lo : 3 ≤ n) (hi : n ≤ 12) (A2 : Sl) : ∀ (ks : List Nat) (raw : List Jm) (A5 A6 A7 A8 A9 A10 : Sl), (∀ j ∈ raw, JOk n j) → raw.length + ks.length ≤ 1000 → ∃ (raw' : List Jm) (B5 B6 B7 B8 B9 B10 : Sl), (∀ j ∈ raw', JOk n j) ∧ raw'.length = raw.length + ks.length ∧
    loopF (gNm 5) bdC (ks.map fun (k : Nat) => PyData.int (k : Int)) [.fz (.list (ns.map PyData.int)), .fz (.int (at_ : Int)), A2, .fz (.int (n : Int)), .ow (.list (raw.map encJ)), A5, A6, A7, A8, A9, A10] = .nx [.fz (.list (ns.map PyData.int)), .fz (.int (at_ : Int)), A2, .fz (.int (n : Int)), .ow (.list (raw'.map encJ)), B5, B6, B7, B8, B9, B10]
  | [], raw, A5, A6, A7, A8, A9, A10, hr, _ => ⟨raw, A5, A6, A7, A8, A9, A10, hr, by simp, rfl⟩
  | k :: ks, raw, A5, A6, A7, A8, A9, A10, hr, hl => by
    rw [List.length_cons] at hl
    obtain ⟨j, B6, B7, B8, B9, B10, hj, e⟩ := stC (ns := ns) (at_ := at_) (k := k) (raw := raw) lo hi (by omega) A2 A6 A7 A8 A9 A10
    obtain ⟨raw', C5, C6, C7, C8, C9, C10, p1, p2, p3⟩ := wayC (ns := ns) (at_ := at_) lo hi A2 ks (raw ++ [j]) (.fz (.int (k : Int))) B6 B7 B8 B9 B10 (fun q hq => by
      rcases List.mem_append.mp hq with hq | hq
      · exact hr q hq
      · simp only [List.mem_cons, List.not_mem_nil, or_false] at hq
        subst hq
        exact hj) (by rw [List.length_append]; simp; omega)
    refine ⟨raw', C5, C6, C7, C8, C9, C10, p1, by rw [p2, List.length_append]; simp; omega, ?_⟩
    rw [List.map_cons]
    show nextS (bdC [.fz (.list (ns.map PyData.int)), .fz (.int (at_ : Int)), A2, .fz (.int (n : Int)), .ow (.list (raw.map encJ)), .fz (.int (k : Int)), A6, A7, A8, A9, A10]) _ = _
    rw [e]
    exact p3
def manyN (seed : Int) : Nat := match (seed / 7 % 4).toNat with
  | 0 => 3 + (seed / 5 % 10).toNat
  | 1 => 12
  | 2 => 6
  | _ => 9
theorem many_rng (seed : Int) : 3 ≤ manyN seed ∧ manyN seed ≤ 12 := by
  have h1 := Int.emod_nonneg (seed / 5) (b := 10) (by decide)
  have h2 := Int.emod_lt_of_pos (seed / 5) (b := 10) (by decide)
  unfold manyN
  split <;> omega
theorem many_ok (seed : Int) : dItem' (.list [.int (3 + seed / 5 % 10), .int 12, .int 6, .int 9]) (.int (seed / 7 % 4)) = .ok (.int (manyN seed : Int)) := by
  obtain ⟨a, ha, ea⟩ := md (seed / 7) 4 (by decide)
  have ea : seed / 7 % 4 = (a : Int) := ea
  have h1 := Int.emod_nonneg (seed / 5) (b := 10) (by decide)
  unfold manyN
  rw [ea, Int.toNat_natCast]
  match a, ha with
  | 0, _ =>
    show R.ok (PyData.int (3 + seed / 5 % 10)) = .ok (.int (((3 + (seed / 5 % 10).toNat : Nat)) : Int))
    have e : (((3 + (seed / 5 % 10).toNat : Nat)) : Int) = 3 + seed / 5 % 10 := by omega
    rw [e]
  | 1, _ => rfl
  | 2, _ => rfl
  | 3, _ => rfl
  | n + 4, h => omega
theorem raw_ok {ns : List Int} {at_ n : Nat} (seed : Int) (lo : 3 ≤ n) (hi : n ≤ 12) : ∃ (raw : List Jm) (B5 B6 B7 B8 B9 B10 : Sl), (∀ j ∈ raw, JOk n j) ∧ raw.length < 64 ∧
    b__law_world_3 [.fz (.list (ns.map PyData.int)), .fz (.int (at_ : Int)), .fz (.int seed), .fz (.int (n : Int)), .ow (.list []), .un, .un, .un, .un, .un, .un] = .nx [.fz (.list (ns.map PyData.int)), .fz (.int (at_ : Int)), .fz (.int seed), .fz (.int (n : Int)), .ow (.list (raw.map encJ)), B5, B6, B7, B8, B9, B10] := by
  have hc : ∀ v : Int, tB (eBin dEq (eBin dMod (eBin dFdiv (eVar 2) (eC (.int 11))) (eC (.int 3))) (eC (.int v))) [.fz (.list (ns.map PyData.int)), .fz (.int (at_ : Int)), .fz (.int seed), .fz (.int (n : Int)), .ow (.list []), .un, .un, .un, .un, .un, .un] = .ok (seed / 11 % 3 == v) := fun v =>
    tB_ok (bin_ok (bin_ok (bin_ok (x := .int seed) (y := .int 11) rfl rfl (fdiv_ok ⟨by decide, by decide⟩)) (y := .int 3) rfl (mod_ok (by decide))) (y := .int v) rfl (eqInt _ _))
  cases h0 : (seed / 11 % 3 == 0) with
  | true =>
    have hc0 := hc 0
    rw [h0] at hc0
    obtain ⟨raw, A5, p1, p2, p3⟩ := wayA (n := n) (.fz (.list (ns.map PyData.int))) (.fz (.int (at_ : Int))) (.fz (.int seed)) (.fz (.int (n : Int))) .un .un .un .un .un (List.range (n - 2)) [] .un (fun k hk => by have := List.mem_range.mp hk; omega) (fun _ h => by cases h) (by rw [List.length_range]; simp; omega)
    refine ⟨raw, A5, .un, .un, .un, .un, .un, p1, by rw [p2, List.length_range]; simp; omega, ?_⟩
    refine (if_t hc0).trans (for_nx (ds := (List.range (n - 2)).map fun (k : Nat) => PyData.int (k : Int)) ?_ p3)
    have e : ((n - 2 : Nat) : Int) = (n : Int) - 2 := by omega
    show rgD 0 ((n : Int) - 2) = _
    rw [← e]
    exact rg0 (by omega)
  | false =>
    have hc0 := hc 0
    rw [h0] at hc0
    cases h1 : (seed / 11 % 3 == 1) with
    | true =>
      have hc1 := hc 1
      rw [h1] at hc1
      obtain ⟨raw, A5, p1, p2, p3⟩ := wayB (n := n) (.fz (.list (ns.map PyData.int))) (.fz (.int (at_ : Int))) (.fz (.int seed)) .un .un .un .un .un (List.range n) [] .un (fun _ h => by cases h) (by rw [List.length_range]; simp; omega)
      rw [List.length_range] at p2
      refine ⟨raw, A5, .un, .un, .un, .un, .un, p1, by simp at p2; omega, ?_⟩
      exact (if_f hc0).trans ((if_t hc1).trans (for_nx (ds := (List.range n).map fun (k : Nat) => PyData.int (k : Int)) (rg0 (by omega)) p3))
    | false =>
      have hc1 := hc 1
      rw [h1] at hc1
      obtain ⟨m, hm, em⟩ := md (seed / 13) 17 (by decide)
      have em : seed / 13 % 17 = (m : Int) := em
      obtain ⟨raw, B5, B6, B7, B8, B9, B10, p1, p2, p3⟩ := wayC (ns := ns) (at_ := at_) (n := n) lo hi (.fz (.int seed)) (List.range m) [] .un .un .un .un .un .un (fun _ h => by cases h) (by rw [List.length_range]; simp; omega)
      rw [List.length_range] at p2
      refine ⟨raw, B5, B6, B7, B8, B9, B10, p1, by simp at p2; omega, ?_⟩
      refine (if_f hc0).trans ((if_f hc1).trans (for_nx (ds := (List.range m).map fun (k : Nat) => PyData.int (k : Int)) ?_ p3))
      have hv : eBin dMod (eBin dFdiv (eVar 2) (eC (.int 13))) (eC (.int 17)) [.fz (.list (ns.map PyData.int)), .fz (.int (at_ : Int)), .fz (.int seed), .fz (.int (n : Int)), .ow (.list []), .un, .un, .un, .un, .un, .un] = .ok (.int (m : Int)) := by
        rw [← em]
        exact bin_ok (bin_ok (x := .int seed) (y := .int 13) rfl rfl (fdiv_ok ⟨by decide, by decide⟩)) (y := .int 17) rfl (mod_ok (by decide))
      unfold iR1
      rw [hv]
      exact rg0 (by omega)
theorem law_world_ok (ns : List Int) (at_ : Nat) : ∃ w : Wd, WOk w ∧ m__law_world [.list (ns.map PyData.int), .int (at_ : Int)] = .ok (encW w) := by
  let seed : Int := seedI (ns.getD at_ 0) 0
  obtain ⟨lo, hi⟩ := many_rng seed
  obtain ⟨raw, B5, B6, B7, B8, B9, B10, p1, p2, p3⟩ := raw_ok (ns := ns) (at_ := at_) (n := manyN seed) seed lo hi
  obtain ⟨w, hw, hn, h4⟩ := world_of_raw lo hi p1 p2
  refine ⟨w, hw, fn_rt rfl ?_⟩
  rw [b__law_world_eq]
  refine seq_nx (set_nx (d := .int seed) ?_) (seq_nx (set_nx (d := .int (manyN seed : Int)) ?_) (seq_nx (own_nx (d := .list []) rfl) (seq_nx p3 (h4 _ _ _ _ _ _ _ _ _))))
  · exact call_ok (ds := [.int (ns.getD at_ 0), .int 0]) (cons_ok (call_ok (ds := [.list (ns.map PyData.int), .int (at_ : Int)]) rfl (cellC ns at_)) rfl) (seed_ok _ _)
  · exact bin_ok (x := .list [.int (3 + seed / 5 % 10), .int 12, .int 6, .int 9]) (lst_ok (cons_ok (bin_ok (x := .int 3) rfl (bin_ok (bin_ok (x := .int seed) (y := .int 5) rfl rfl (fdiv_ok ⟨by decide, by decide⟩)) (y := .int 10) rfl (mod_ok (by decide))) rfl) rfl) (by simp)) (bin_ok (bin_ok (x := .int seed) (y := .int 7) rfl rfl (fdiv_ok ⟨by decide, by decide⟩)) (y := .int 4) rfl (mod_ok (by decide))) (many_ok seed)
end Mi

namespace Mi
open PySem PySem.Spec PyProof.Rows L2
theorem steps_mem {s : List Bool} {x y z x' y' z' : Bool} {m : Mv} : ∀ {js : List Jm} {k : Nat}, m ∈ stepsL s x y z x' y' z' k js ↔ ∃ i j, js[i]? = some j ∧ m.1 = k + i ∧ hasL s j x y z = true ∧ m.2 = putL s j x' y' z'
  | [], k => by
    constructor
    · intro h
      cases h
    · rintro ⟨i, j, e, _⟩
      simp at e
  | j :: js, k => by
    unfold stepsL
    constructor
    · intro h
      by_cases c : hasL s j x y z = true
      · rw [if_pos c] at h
        rcases List.mem_cons.mp h with rfl | h
        · exact ⟨0, j, rfl, rfl, c, rfl⟩
        · obtain ⟨i, q, e1, e2, e3, e4⟩ := steps_mem.mp h
          exact ⟨i + 1, q, by simpa using e1, by omega, e3, e4⟩
      · rw [if_neg c] at h
        obtain ⟨i, q, e1, e2, e3, e4⟩ := steps_mem.mp h
        exact ⟨i + 1, q, by simpa using e1, by omega, e3, e4⟩
    · rintro ⟨i, q, e1, e2, e3, e4⟩
      cases i with
      | zero =>
        have e1 : j = q := by simpa using e1
        subst e1
        rw [if_pos e3]
        refine List.mem_cons.mpr (.inl ?_)
        cases m
        simp only at e2 e4
        rw [e2, e4]
        rfl
      | succ i =>
        have hm : m ∈ stepsL s x y z x' y' z' (k + 1) js := steps_mem.mpr ⟨i, q, by simpa using e1, by omega, e3, e4⟩
        by_cases c : hasL s j x y z = true
        · rw [if_pos c]
          exact List.mem_cons_of_mem _ hm
        · rw [if_neg c]
          exact hm
theorem getD_set_self {s : List Bool} {k : Nat} {b : Bool} (h : k < s.length) : (s.set k b).getD k false = b := by
  rw [List.getD_eq_getElem?_getD, List.getElem?_set_self h]
  rfl
theorem getD_set_ne {s : List Bool} {k l : Nat} {b : Bool} (h : k ≠ l) : (s.set k b).getD l false = s.getD l false := by
  rw [List.getD_eq_getElem?_getD, List.getElem?_set_ne h, List.getD_eq_getElem?_getD]
theorem hasL_put {n : Nat} {s : List Bool} {j : Jm} (hj : JOk n j) (hs : s.length = n) (x y z : Bool) : hasL (putL s j x y z) j x y z = true := by
  have h1 : j.1 < s.length := by rw [hs]; exact hj.a
  have h2 : j.2.1 < s.length := by rw [hs]; exact hj.b
  have h3 : j.2.2 < s.length := by rw [hs]; exact hj.c
  unfold hasL putL
  rw [getD_set_self (by rw [List.length_set, List.length_set]; exact h3), getD_set_ne (Ne.symm hj.bc), getD_set_self (by rw [List.length_set]; exact h2), getD_set_ne (Ne.symm hj.ac), getD_set_ne (Ne.symm hj.ab), getD_set_self h1]
  cases x <;> cases y <;> cases z <;> rfl
theorem putL_back {n : Nat} {s : List Bool} {j : Jm} (hj : JOk n j) (hs : s.length = n) {x y z : Bool} (x' y' z' : Bool) (h : hasL s j x y z = true) : putL (putL s j x' y' z') j x y z = s := by
  have h1 : j.1 < s.length := by rw [hs]; exact hj.a
  have h2 : j.2.1 < s.length := by rw [hs]; exact hj.b
  have h3 : j.2.2 < s.length := by rw [hs]; exact hj.c
  unfold hasL at h
  rw [Bool.and_eq_true, Bool.and_eq_true] at h
  have e1 : s.getD j.1 false = x := by simpa using h.1
  have e2 : s.getD j.2.1 false = y := by simpa using h.2.1
  have e3 : s.getD j.2.2 false = z := by simpa using h.2.2
  refine List.ext_getElem? fun i => ?_
  unfold putL
  have q : ∀ k : Nat, k < s.length → ∀ b, s.getD k false = b → s[k]? = some b := fun k hk b eb => by
    rw [List.getD_eq_getElem?_getD, List.getElem?_eq_getElem hk] at eb
    rw [List.getElem?_eq_getElem hk]
    exact congrArg some eb
  by_cases c3 : j.2.2 = i
  · subst c3
    rw [List.getElem?_set_self (by simp; exact h3), q _ h3 _ e3]
  · rw [List.getElem?_set_ne c3]
    by_cases c2 : j.2.1 = i
    · subst c2
      rw [List.getElem?_set_self (by simp; exact h2), q _ h2 _ e2]
    · rw [List.getElem?_set_ne c2]
      by_cases c1 : j.1 = i
      · subst c1
        rw [List.getElem?_set_self (by simp; exact h1), q _ h1 _ e1]
      · rw [List.getElem?_set_ne c1, List.getElem?_set_ne c3, List.getElem?_set_ne c2, List.getElem?_set_ne c1]
theorem moves_back {w : Wd} (h : WOk w) {s : List Bool} (hs : s.length = w.n) {m : Mv} (hm : m ∈ movesL w s) : (m.1, s) ∈ backL w m.2 ∧ m.2.length = w.n ∧ ∃ j, w.js[m.1]? = some j ∧ hasL s j true true false = true ∧ m.2 = putL s j false false true := by
  obtain ⟨i, j, e1, e2, e3, e4⟩ := steps_mem.mp hm
  have e2 : m.1 = i := by omega
  have hj := h.ok j (List.mem_of_getElem? e1)
  refine ⟨steps_mem.mpr ⟨i, j, e1, by simpa using e2, ?_, ?_⟩, by rw [e4, putL_len]; exact hs, j, by rw [e2]; exact e1, e3, e4⟩
  · rw [e4]
    exact hasL_put hj hs false false true
  · show s = putL m.2 j true true false
    rw [e4]
    exact (putL_back hj hs false false true e3).symm
end Mi

namespace Mi
open PySem PySem.Spec PyProof.Rows L2
theorem v0 (d : Da) (r : Env) : eVar 0 (.fz d :: r) = .ok d := rfl
theorem vS (n : Nat) (s : Sl) (r : Env) : eVar (n + 1) (s :: r) = eVar n r := rfl
theorem rd0f (d : Da) (r : Env) : eRd 0 (.fz d :: r) = .ok d := rfl
theorem rd0o (d : Da) (r : Env) : eRd 0 (.ow d :: r) = .ok d := rfl
theorem rdS (n : Nat) (s : Sl) (r : Env) : eRd (n + 1) (s :: r) = eRd n r := rfl
theorem iteT {α : Sort _} (a b : α) : (if true = true then a else b) = a := rfl
theorem iteF {α : Sort _} (a b : α) : (if false = true then a else b) = b := rfl
theorem bS_ok {α : Type} (r : Env) (a : α) (g : α → SR) : bS r (.ok a) g = g a := rfl
theorem bS_er {α : Type} (r : Env) (c : String) (g : α → SR) : bS r (.er c) g = .er c r := rfl
theorem bS_no {α : Type} (r : Env) (g : α → SR) : bS r (.no : R α) g = .no := rfl
theorem oNo : outS .no = .no := rfl
theorem sSeq_ap (f g : Env → SR) (r : Env) : sSeq f g r = (match f r with | .nx r' => g r' | x => x) := rfl
theorem sSet_ap (i : Nat) (f : Env → R Da) (r : Env) : sSet i f r = bS r (f r) fun d => .nx (r.set i (.fz d)) := rfl
theorem sOwn_ap (i : Nat) (f : Env → R Da) (r : Env) : sOwn i f r = bS r (f r) fun d => .nx (r.set i (.ow d)) := rfl
theorem sExp_ap (f : Env → R Da) (r : Env) : sExp f r = bS r (f r) fun _ => .nx r := rfl
theorem sRet_ap (f : Env → R Da) (r : Env) : sRet f r = bS r (f r) .rt := rfl
theorem sIf_ap (c : Env → R Bool) (f g : Env → SR) (r : Env) : sIf c f g r = bS r (c r) fun b => if b = true then f r else g r := rfl
theorem sNil_ap (r : Env) : sNil r = .nx r := rfl
theorem eBin_ap (g : Da → Da → R Da) (fa fb : Env → R Da) (r : Env) : eBin g fa fb r = (fa r).bind fun x => (fb r).bind fun y => (g x y).calm := rfl
theorem eCall_ap (m : List Da → R Da) (fs : Env → R (List Da)) (r : Env) : eCall m fs r = (fs r).bind m := rfl
theorem aCons_ap (f : Env → R Da) (g : Env → R (List Da)) (r : Env) : aCons f g r = (f r).bind fun d => (g r).bind fun ds => .ok (d :: ds) := rfl
theorem aNil_ap (r : Env) : aNil r = .ok [] := rfl
theorem eC_ap (d : Da) (r : Env) : eC d r = .ok d := rfl
theorem tB_ap (f : Env → R Da) (r : Env) : tB f r = (f r).bind isB := rfl
theorem isB_ap (b : Bool) : isB (.bool b) = .ok b := rfl
theorem tNot_ap (f : Env → R Bool) (r : Env) : tNot f r = (f r).bind fun b => .ok (!b) := rfl
theorem tAnd_ap (f g : Env → R Bool) (r : Env) : tAnd f g r = (f r).bind fun b => if b = true then g r else .ok false := rfl
theorem tOr_ap (f g : Env → R Bool) (r : Env) : tOr f g r = (f r).bind fun b => if b = true then .ok true else g r := rfl
theorem tTru_ap (f : Env → R Da) (r : Env) : tTru f r = (f r).bind truthD := rfl
theorem truB (b : Bool) : truthD (.bool b) = .ok b := rfl
theorem truL (ds : List Da) : truthD (.list ds) = .ok (!ds.isEmpty) := rfl
theorem truT (ds : List Da) : truthD (.tuple ds) = .ok (!ds.isEmpty) := rfl
theorem truI (i : Int) : truthD (.int i) = .ok (i != 0) := rfl
theorem env2 (n : Nat) (ds : List Da) : env0 n ds = ds.map Sl.fz ++ List.replicate (n - ds.length) .un := rfl
theorem fn_ap (np n : Nat) (g : Env → SR) (ds : List Da) : fnD np n g ds = if ds.length = np then outS (g (env0 n ds)) else .no := rfl
theorem oRt (d : Da) : outS (.rt d) = .ok d := rfl
theorem oNx (r : Env) : outS (.nx r) = .ok .none := rfl
theorem oEr (c : String) (r : Env) : outS (.er c r) = .er c := rfl
theorem sRaise_ap (c : String) (r : Env) : sRaise c r = .er c r := rfl
theorem lc_map {α : Type} {vs : List Nat} {fi : Env → R (List Da)} {g : Da → Env → Option Env} {ft : Env → R Bool} {fe : Env → R Da} {r : Env} (enc : α → Da) {l : List α} {P : α → Bool} {Y : α → Da} (hi : fi r = .ok (l.map enc)) (hl : l.length ≤ 100000)
    (h : ∀ a ∈ l, ∃ r1, g (enc a) (wipeE r vs) = some r1 ∧ ft r1 = .ok (P a) ∧ (P a = true → fe r1 = .ok (Y a))) : eLc vs fi g ft fe r = .ok (.list ((l.filter P).map Y)) := by
  have key : ∀ l : List α, (∀ a ∈ l, ∃ r1, g (enc a) (wipeE r vs) = some r1 ∧ ft r1 = .ok (P a) ∧ (P a = true → fe r1 = .ok (Y a))) → lcF g ft fe (wipeE r vs) (l.map enc) = .ok ((l.filter P).map Y) := by
    intro l
    induction l with
    | nil => intro _; rfl
    | cons a l ih =>
      intro h
      obtain ⟨r1, e1, e2, e3⟩ := h a List.mem_cons_self
      have ih := ih fun x hx => h x (List.mem_cons_of_mem _ hx)
      rw [List.map_cons]
      unfold lcF
      rw [e1]
      show (ft r1).bind _ = _
      rw [e2]
      cases hp : P a with
      | false =>
        rw [List.filter_cons_of_neg (by rw [hp]; exact Bool.false_ne_true)]
        exact ih
      | true =>
        rw [List.filter_cons_of_pos hp, List.map_cons]
        show (fe r1).bind _ = _
        rw [e3 hp]
        show (lcF g ft fe (wipeE r vs) (l.map enc)).bind _ = _
        rw [ih]
        rfl
  unfold eLc
  rw [hi]
  show (if (l.map enc).length ≤ 100000 then _ else _) = _
  rw [if_pos (by rw [List.length_map]; exact hl), key l h]
  rfl
theorem lc_mapA {α : Type} {vs : List Nat} {fi : Env → R (List Da)} {g : Da → Env → Option Env} {fe : Env → R Da} {r : Env} (enc : α → Da) {l : List α} {Y : α → Da} (hi : fi r = .ok (l.map enc)) (hl : l.length ≤ 100000)
    (h : ∀ a ∈ l, ∃ r1, g (enc a) (wipeE r vs) = some r1 ∧ fe r1 = .ok (Y a)) : eLc vs fi g ftYes fe r = .ok (.list (l.map Y)) := by
  have z := lc_map (vs := vs) (fi := fi) (g := g) (ft := ftYes) (fe := fe) (r := r) enc (l := l) (P := fun _ => true) (Y := Y) hi hl fun a ha => by
    obtain ⟨r1, e1, e2⟩ := h a ha
    exact ⟨r1, e1, rfl, fun _ => e2⟩
  rw [List.filter_eq_self.mpr fun _ _ => rfl] at z
  exact z
end Mi

namespace Mi
open PySem PySem.Spec PyProof.Rows L2
abbrev Std := List Bool
theorem encS_str {s t : Std} (h : (⟨(s.map ch).toArray⟩ : Str) = ⟨(t.map ch).toArray⟩) : s = t := by
  have h1 : (s.map ch).toArray = (t.map ch).toArray := congrArg Str.cps h
  have h2 : s.map ch = t.map ch := by simpa using h1
  have h3 : ∀ a b : Bool, ch a = ch b → a = b := by decide
  exact (List.map_inj_right (fun a b e => h3 a b e)).mp h2
def tp (t : Std) : Da × Da := (encS t, .bool true)
def addNew (acc : List Std) : List Mv → List Std := List.foldl (fun acc m => if m.2 ∈ acc then acc else acc ++ [m.2]) acc
def bfs (nx : Std → List Mv) : Nat → Nat → List Std → Option (List Std)
  | 0, _, _ => none
  | f + 1, k, row => match row[k]? with
    | some s => if 80 < (addNew row (nx s)).length then none else bfs nx f (k + 1) (addNew row (nx s))
    | none => some row
def allFrom (w : Wd) (s : Std) : Option (List Std) := bfs (movesL w) 100 0 [s]
def allTo (w : Wd) (s : Std) : Option (List Std) := bfs (backL w) 100 0 [s]
theorem len_L (ds : List Da) : d1 lenD [.list ds] = .ok (.int (ds.length : Nat)) := rfl
theorem len_T (ds : List Da) : d1 lenD [.tuple ds] = .ok (.int (ds.length : Nat)) := rfl
theorem eBl_ap (g : List Da → R Da) (fs : Env → R (List Da)) (r : Env) : eBl g fs r = (fs r).bind fun ds => (g ds).calm := rfl
theorem lt_I (i j : Int) : dLt (.int i) (.int j) = .ok (.bool (decide (i < j))) := rfl
theorem le_I (i j : Int) : dLe (.int i) (.int j) = .ok (.bool (decide (i ≤ j))) := rfl
theorem gt_I (i j : Int) : dGt (.int i) (.int j) = .ok (.bool (decide (j < i))) := rfl
theorem sAug_ap (i : Nat) (g : Int → Int → Int) (f : Env → R Da) (r : Env) : sAug i g f r = (match r[i]? with
  | some (.fz (.int a)) => bS r (f r) fun d => match d with
    | .int b => .nx (r.set i (.fz (.int (g a b))))
    | _ => .no
  | _ => .no) := rfl
theorem sFor_ap (fi : Env → R (List Da)) (g : Da → Env → Option Env) (body : Env → SR) (r : Env) : sFor fi g body r = bS r (fi r) fun ds => loopF g body ds r := rfl
theorem iD_ap (f : Env → R Da) (r : Env) : iD f r = (f r).bind itemsD := rfl
theorem itemsL (ds : List Da) : itemsD (.list ds) = .ok ds := rfl
theorem itemsT (ds : List Da) : itemsD (.tuple ds) = .ok ds := rfl
theorem itemsDi (ds : List (Da × Da)) : itemsD (.dict ds) = .ok (ds.map (·.1)) := rfl
theorem moves_nx {w : Wd} (h : WOk w) (t : Std) (ht : t.length = w.n) : m_moves_of [encW w, encS t] = .ok (.list ((movesL w t).map encM)) ∧ (movesL w t).length ≤ 16 ∧ ∀ m ∈ movesL w t, m.2.length = w.n :=
  ⟨moves_of_ok h ht, Nat.le_trans (stepsL_len _ _ _ _ _ _ _ _ _) h.len, fun m hm => by
    obtain ⟨i, j, _, _, _, e4⟩ := steps_mem.mp hm
    rw [e4, putL_len]
    exact ht⟩
theorem eLst_ap (f : Env → R (List Da)) (r : Env) : eLst f r = (f r).bind mkL := rfl
theorem eTup_ap (f : Env → R (List Da)) (r : Env) : eTup f r = (f r).bind mkT := rfl
theorem mkL_ap (ds : List Da) : mkL ds = if ds.length ≤ 100000 then .ok (.list ds) else .no := rfl
theorem mkT_ap (ds : List Da) : mkT ds = if ds.length ≤ 100000 then .ok (.tuple ds) else .no := rfl
theorem frzA_ap (i : Nat) (g : Env → SR) (r : Env) : sFrzA i g r = g (frzA i r) := rfl
theorem eFz_ap (f : Env → R Da) (r : Env) : eFz f r = (f r).bind isL := rfl
theorem isL_ap (ds : List Da) : isL (.list ds) = .ok (.list ds) := rfl
theorem wipe_nil (r : Env) : wipeE r [] = r := rfl
theorem wipe_cons (r : Env) (i : Nat) (is : List Nat) : wipeE r (i :: is) = (wipeE r is).set i .un := rfl
end Mi

namespace Mi
open PySem PySem.Spec PyProof.Rows L2
theorem lay_S (s : List Bool) : PyData.canLay0 (encS s) = true := by
  unfold encS
  simp only [PyData.canLay0]
  show ((s.map ch).toArray.all fun c => decide (c < 0x110000)) = true
  simp only [List.all_toArray, List.all_map, List.all_eq_true]
  intro b _
  cases b <;> rfl
theorem addNew_mem {acc : List Std} {ms : List Mv} {t : Std} : t ∈ addNew acc ms ↔ t ∈ acc ∨ ∃ m ∈ ms, m.2 = t := by
  unfold addNew
  induction ms generalizing acc with
  | nil => simp
  | cons m ms ih =>
    rw [List.foldl_cons, ih]
    by_cases c : m.2 ∈ acc
    · rw [if_pos c]
      constructor
      · rintro (h | ⟨x, hx, e⟩)
        · exact .inl h
        · exact .inr ⟨x, List.mem_cons_of_mem _ hx, e⟩
      · rintro (h | ⟨x, hx, e⟩)
        · exact .inl h
        · rcases List.mem_cons.mp hx with rfl | hx
          · exact .inl (e ▸ c)
          · exact .inr ⟨x, hx, e⟩
    · rw [if_neg c]
      constructor
      · rintro (h | ⟨x, hx, e⟩)
        · rcases List.mem_append.mp h with h | h
          · exact .inl h
          · exact .inr ⟨m, List.mem_cons_self, (List.mem_singleton.mp h).symm⟩
        · exact .inr ⟨x, List.mem_cons_of_mem _ hx, e⟩
      · rintro (h | ⟨x, hx, e⟩)
        · exact .inl (List.mem_append_left _ h)
        · rcases List.mem_cons.mp hx with rfl | hx
          · exact .inl (List.mem_append_right _ (List.mem_singleton.mpr e.symm))
          · exact .inr ⟨x, hx, e⟩
end Mi

namespace Mi
open PySem PySem.Spec PyProof.Rows L2
theorem w0 (w : Wd) : dItem' (encW w) (.int 0) = .ok (.int (w.n : Int)) := rfl
theorem w1 (w : Wd) : dItem' (encW w) (.int 1) = .ok (.tuple (w.js.map encJ)) := rfl
theorem add_I (i j : Int) : dAdd (.int i) (.int j) = .ok (.int (i + j)) := rfl
theorem sub_I (i j : Int) : dSub (.int i) (.int j) = .ok (.int (i - j)) := rfl
def mixI (c m : Int) : Int := (c * 48271 % 9949) ^ 3 % 9949 % m
theorem mix_ok (c : Int) {m : Int} (hm : 0 < m) : m__law_mix [.int c, .int 9949, .int m] = .ok (.int (mixI c m)) := by
  have h1 := Int.emod_nonneg (c * 48271) (b := 9949) (by decide)
  have h2 := Int.emod_lt_of_pos (c * 48271) (b := 9949) (by decide)
  simp (config := { decide := false }) only [_root_.Mi.v0, _root_.Mi.vS, _root_.Mi.rd0f, _root_.Mi.rd0o, _root_.Mi.rdS, _root_.Mi.iteT, _root_.Mi.iteF, bS_ok, bS_er, bS_no, oNo, sSeq_ap, sSet_ap, sOwn_ap, sExp_ap, sRet_ap, sIf_ap, sNil_ap, eBin_ap, eCall_ap, aCons_ap, aNil_ap, eC_ap, tB_ap, isB_ap, tNot_ap, tAnd_ap, tOr_ap, tTru_ap, _root_.Mi.truB, _root_.Mi.truL, _root_.Mi.truT, _root_.Mi.truI, fn_ap, _root_.Mi.env2, oRt, oNx, oEr, sRaise_ap, _root_.Mi.R.ok_bind, _root_.Mi.R.er_bind, _root_.Mi.R.no_bind, _root_.Mi.R.calm_ok, _root_.Mi.R.calm_no, List.set_cons_zero, List.set_cons_succ, List.length_cons, List.length_nil, List.map_cons, List.map_nil, List.replicate_zero, List.replicate_succ, List.cons_append, List.nil_append, Nat.reduceAdd, Nat.reduceSub, Nat.reduceEqDiff, if_true, if_false, Bool.not_true, Bool.not_false, ite_true, ite_false, reduceIte, Nat.zero_add, eBl_ap, len_L, len_T, lt_I, le_I, gt_I, sFor_ap, iD_ap, itemsL, itemsT, itemsDi, sAug_ap, List.getElem?_cons_succ, List.getElem?_cons_zero, eLst_ap, eTup_ap, mkL_ap, mkT_ap, Nat.reduceLeDiff, frzA_ap, frzA, List.length_map, wipe_nil, wipe_cons, eFz_ap, isL_ap, _root_.Mi.w0, _root_.Mi.w1, add_I, sub_I, eqInt, neInt, within_ok, m__law_mix, b__law_mix, mul_ok (.inr (by decide) : (-(2 ^ 64) < c ∧ c < 2 ^ 64) ∨ (-(2 ^ 64) < (48271 : Int) ∧ (48271 : Int) < 2 ^ 64)), mod_ok (show (0 : Int) < 9949 by decide), mod_ok hm,
    pow_ok (show (0 : Int) ≤ 3 ∧ (3 : Int) ≤ 1000000 ∧ (c * 48271 % 9949).natAbs < 2 ^ 64 by omega)]
  rfl
theorem mix_rng (c : Int) {m : Nat} (hm : 0 < m) : ∃ k : Nat, k < m ∧ mixI c (m : Int) = (k : Int) := md _ m hm
theorem sh_J (m : Nat) (j : Jm) : shD (m + 1) (encJ j) = true := by
  cases m <;> rfl
theorem ne_Jnil (js : List Jm) : dNe (.tuple (js.map encJ)) (.tuple []) = .ok (.bool (!js.isEmpty)) := by
  cases js with
  | nil => kernel_rfl
  | cons j js =>
    have h : shD 8 (.tuple ((j :: js).map encJ)) = true := by
      show ((j :: js).map encJ).all (shD 7) = true
      exact List.all_eq_true.mpr fun d hd => by
        obtain ⟨q, _, rfl⟩ := List.mem_map.mp hd
        exact sh_J 6 q
    unfold dNe
    have e : eqOk (.tuple ((j :: js).map encJ)) (.tuple []) = true := by
      show (shD 8 (.tuple ((j :: js).map encJ)) && shD 8 (.tuple [])) = true
      rw [h]
      rfl
    rw [if_pos e]
    have : PyData.eqv (.tuple ((j :: js).map encJ)) (.tuple []) = false := by
      simp [PyData.eqv, PyData.eqvAll]
    rw [this]
    rfl
theorem start_ok (ns : List Int) (k : Nat) {w : Wd} (h : WOk w) : ∃ s : Std, s.length = w.n ∧ m__law_start [.list (ns.map PyData.int), .int (k : Int), encW w] = .ok (encS s) := by
  have hn := h.hi
  let s0 : Std := standL (seedI (ns.getD k 0) 1) w.n
  have hs0 : s0.length = w.n := standL_len _ _
  have e1 : m__law_stand [.int (seedI (ns.getD k 0) 1), .int (w.n : Int)] = .ok (encS s0) := stand_ok _ (by omega)
  have c1 := cellC ns k
  have c2 := cellC ns (k + 1)
  have ek : ((k + 1 : Nat) : Int) = (k : Int) + 1 := by omega
  rw [ek] at c2
  by_cases hc : (w.js.isEmpty = false ∧ 0 < ns.getD k 0 % 3)
  · have hp : 0 < w.js.length := by
      cases hj : w.js with
      | nil => rw [hj] at hc; cases hc.1
      | cons _ _ => simp
    obtain ⟨i, hi, ei⟩ := mix_rng (ns.getD (k + 1) 0) hp
    have hj : w.js[i]? = some w.js[i] := List.getElem?_eq_getElem hi
    have hjo := h.ok _ (List.getElem_mem hi)
    have e2 := law_put_ok hjo hs0 hn true true false
    rw [← encS_oo] at e2
    refine ⟨putL s0 w.js[i] true true false, by rw [putL_len]; exact hs0, ?_⟩
    simp (config := { decide := false }) only [_root_.Mi.v0, _root_.Mi.vS, _root_.Mi.rd0f, _root_.Mi.rd0o, _root_.Mi.rdS, _root_.Mi.iteT, _root_.Mi.iteF, bS_ok, bS_er, bS_no, oNo, sSeq_ap, sSet_ap, sOwn_ap, sExp_ap, sRet_ap, sIf_ap, sNil_ap, eBin_ap, eCall_ap, aCons_ap, aNil_ap, eC_ap, tB_ap, isB_ap, tNot_ap, tAnd_ap, tOr_ap, tTru_ap, _root_.Mi.truB, _root_.Mi.truL, _root_.Mi.truT, _root_.Mi.truI, fn_ap, _root_.Mi.env2, oRt, oNx, oEr, sRaise_ap, _root_.Mi.R.ok_bind, _root_.Mi.R.er_bind, _root_.Mi.R.no_bind, _root_.Mi.R.calm_ok, _root_.Mi.R.calm_no, List.set_cons_zero, List.set_cons_succ, List.length_cons, List.length_nil, List.map_cons, List.map_nil, List.replicate_zero, List.replicate_succ, List.cons_append, List.nil_append, Nat.reduceAdd, Nat.reduceSub, Nat.reduceEqDiff, if_true, if_false, Bool.not_true, Bool.not_false, ite_true, ite_false, reduceIte, Nat.zero_add, eBl_ap, len_L, len_T, lt_I, le_I, gt_I, sFor_ap, iD_ap, itemsL, itemsT, itemsDi, sAug_ap, List.getElem?_cons_succ, List.getElem?_cons_zero, eLst_ap, eTup_ap, mkL_ap, mkT_ap, Nat.reduceLeDiff, frzA_ap, frzA, List.length_map, wipe_nil, wipe_cons, eFz_ap, isL_ap, _root_.Mi.w0, _root_.Mi.w1, add_I, sub_I, eqInt, neInt, within_ok, m__law_start, b__law_start, c1, c2, seed_ok, e1, ne_Jnil, hc.1, mod_ok (show (0 : Int) < 3 by decide), decide_eq_true hc.2, mix_ok _ (show (0 : Int) < (w.js.length : Nat) by omega), ei, item_T (show (w.js.map encJ)[i]? = some (encJ w.js[i]) by rw [List.getElem?_map, hj]; rfl), e2]
  · refine ⟨s0, hs0, ?_⟩
    cases hj : w.js.isEmpty with
    | true => simp (config := { decide := false }) only [_root_.Mi.v0, _root_.Mi.vS, _root_.Mi.rd0f, _root_.Mi.rd0o, _root_.Mi.rdS, _root_.Mi.iteT, _root_.Mi.iteF, bS_ok, bS_er, bS_no, oNo, sSeq_ap, sSet_ap, sOwn_ap, sExp_ap, sRet_ap, sIf_ap, sNil_ap, eBin_ap, eCall_ap, aCons_ap, aNil_ap, eC_ap, tB_ap, isB_ap, tNot_ap, tAnd_ap, tOr_ap, tTru_ap, _root_.Mi.truB, _root_.Mi.truL, _root_.Mi.truT, _root_.Mi.truI, fn_ap, _root_.Mi.env2, oRt, oNx, oEr, sRaise_ap, _root_.Mi.R.ok_bind, _root_.Mi.R.er_bind, _root_.Mi.R.no_bind, _root_.Mi.R.calm_ok, _root_.Mi.R.calm_no, List.set_cons_zero, List.set_cons_succ, List.length_cons, List.length_nil, List.map_cons, List.map_nil, List.replicate_zero, List.replicate_succ, List.cons_append, List.nil_append, Nat.reduceAdd, Nat.reduceSub, Nat.reduceEqDiff, if_true, if_false, Bool.not_true, Bool.not_false, ite_true, ite_false, reduceIte, Nat.zero_add, eBl_ap, len_L, len_T, lt_I, le_I, gt_I, sFor_ap, iD_ap, itemsL, itemsT, itemsDi, sAug_ap, List.getElem?_cons_succ, List.getElem?_cons_zero, eLst_ap, eTup_ap, mkL_ap, mkT_ap, Nat.reduceLeDiff, frzA_ap, frzA, List.length_map, wipe_nil, wipe_cons, eFz_ap, isL_ap, _root_.Mi.w0, _root_.Mi.w1, add_I, sub_I, eqInt, neInt, within_ok, m__law_start, b__law_start, c1, c2, seed_ok, e1, ne_Jnil, hj]
    | false =>
      have h3 : ¬ 0 < ns.getD k 0 % 3 := fun h => hc ⟨hj, h⟩
      simp (config := { decide := false }) only [_root_.Mi.v0, _root_.Mi.vS, _root_.Mi.rd0f, _root_.Mi.rd0o, _root_.Mi.rdS, _root_.Mi.iteT, _root_.Mi.iteF, bS_ok, bS_er, bS_no, oNo, sSeq_ap, sSet_ap, sOwn_ap, sExp_ap, sRet_ap, sIf_ap, sNil_ap, eBin_ap, eCall_ap, aCons_ap, aNil_ap, eC_ap, tB_ap, isB_ap, tNot_ap, tAnd_ap, tOr_ap, tTru_ap, _root_.Mi.truB, _root_.Mi.truL, _root_.Mi.truT, _root_.Mi.truI, fn_ap, _root_.Mi.env2, oRt, oNx, oEr, sRaise_ap, _root_.Mi.R.ok_bind, _root_.Mi.R.er_bind, _root_.Mi.R.no_bind, _root_.Mi.R.calm_ok, _root_.Mi.R.calm_no, List.set_cons_zero, List.set_cons_succ, List.length_cons, List.length_nil, List.map_cons, List.map_nil, List.replicate_zero, List.replicate_succ, List.cons_append, List.nil_append, Nat.reduceAdd, Nat.reduceSub, Nat.reduceEqDiff, if_true, if_false, Bool.not_true, Bool.not_false, ite_true, ite_false, reduceIte, Nat.zero_add, eBl_ap, len_L, len_T, lt_I, le_I, gt_I, sFor_ap, iD_ap, itemsL, itemsT, itemsDi, sAug_ap, List.getElem?_cons_succ, List.getElem?_cons_zero, eLst_ap, eTup_ap, mkL_ap, mkT_ap, Nat.reduceLeDiff, frzA_ap, frzA, List.length_map, wipe_nil, wipe_cons, eFz_ap, isL_ap, _root_.Mi.w0, _root_.Mi.w1, add_I, sub_I, eqInt, neInt, within_ok, m__law_start, b__law_start, c1, c2, seed_ok, e1, ne_Jnil, hj, mod_ok (show (0 : Int) < 3 by decide), decide_eq_false h3]
theorem eIf_ap (c : Env → R Bool) (f g : Env → R Da) (r : Env) : eIf c f g r = (c r).bind fun b => if b = true then f r else g r := rfl
theorem iR1_ap (f : Env → R Da) (r : Env) : iR1 f r = (f r).bind fun d => match d with | .int n => rgD 0 n | _ => .no := rfl
def encN (k : Nat) : Da := .int (k : Int)
theorem m1 (m : Mv) : dItem' (encM m) (.int 1) = .ok (encS m.2) := rfl
end Mi

namespace Mi
open PySem PySem.Spec PyProof.Rows L2
theorem eChain_ap (g g' : Da → Da → R Da) (fa fb fc : Env → R Da) (r : Env) : eChain g g' fa fb fc r = ((fa r).bind fun x => (fb r).bind fun y => (g x y).calm.bind fun z => match z with
  | .bool true => (fc r).bind fun u => (g' y u).calm
  | .bool false => .ok (.bool false)
  | _ => .no) := rfl
structure EqE {α : Type} [DecidableEq α] (k : Nat) (enc : α → Da) : Prop where
  sh : ∀ a, shD k (enc a) = true
  eq : ∀ a b, PyData.eqv (enc a) (enc b) = decide (a = b)
theorem eqv_str (x y : Str) : PyData.eqv (.str x) (.str y) = decide (x = y) := by
  rw [Bool.eq_iff_iff]
  simp [PyData.eqv]
theorem sh_S (m : Nat) (s : Std) : shD m (encS s) = true := by
  cases m <;> exact lay_S s
theorem EqE.S (k : Nat) : EqE k encS := ⟨fun s => sh_S k s, fun s t => by
  show PyData.eqv (.str _) (.str _) = _
  rw [eqv_str]
  by_cases h : s = t
  · subst h; simp
  · rw [decide_eq_false h, decide_eq_false fun e => h (encS_str e)]⟩
theorem EqE.I (k : Nat) : EqE k (fun i : Int => PyData.int i) := ⟨fun i => by cases k <;> rfl, fun a b => by
  rw [Bool.eq_iff_iff]
  simp [PyData.eqv]⟩
theorem EqE.N (k : Nat) : EqE k encN := ⟨fun i => by cases k <;> rfl, fun a b => by
  show PyData.eqv (.int (a : Int)) (.int (b : Int)) = _
  rw [(EqE.I k).eq]
  by_cases h : a = b
  · subst h; simp
  · rw [decide_eq_false h, decide_eq_false (by omega)]⟩
theorem eqvAll_map {α : Type} [DecidableEq α] {enc : α → Da} (h : ∀ a b, PyData.eqv (enc a) (enc b) = decide (a = b)) : ∀ l m : List α, PyData.eqvAll (l.map enc) (m.map enc) = decide (l = m)
  | [], [] => by simp [PyData.eqvAll]
  | [], _ :: _ => by simp [PyData.eqvAll]
  | _ :: _, [] => by simp [PyData.eqvAll]
  | a :: l, b :: m => by
    rw [List.map_cons, List.map_cons]
    unfold PyData.eqvAll
    rw [h, eqvAll_map h l m]
    by_cases c : a = b
    · subst c; simp
    · simp [c]
theorem EqE.L {α : Type} [DecidableEq α] {k : Nat} {enc : α → Da} (h : EqE k enc) : EqE (k + 1) (fun l : List α => PyData.list (l.map enc)) := ⟨fun l => by
    show (l.map enc).all (shD k) = true
    exact List.all_eq_true.mpr fun d hd => by
      obtain ⟨a, _, rfl⟩ := List.mem_map.mp hd
      exact h.sh a, fun l m => by
    show PyData.eqv (.list _) (.list _) = _
    unfold PyData.eqv
    exact eqvAll_map h.eq l m⟩
theorem EqE.T {α : Type} [DecidableEq α] {k : Nat} {enc : α → Da} (h : EqE k enc) : EqE (k + 1) (fun l : List α => PyData.tuple (l.map enc)) := ⟨fun l => by
    show (l.map enc).all (shD k) = true
    exact List.all_eq_true.mpr fun d hd => by
      obtain ⟨a, _, rfl⟩ := List.mem_map.mp hd
      exact h.sh a, fun l m => by
    show PyData.eqv (.tuple _) (.tuple _) = _
    unfold PyData.eqv
    exact eqvAll_map h.eq l m⟩
theorem dEq_of {x y : Da} (hx : shD 8 x = true) (hy : shD 8 y = true) : dEq x y = .ok (.bool (PyData.eqv x y)) := by
  unfold dEq
  have : eqOk x y = true := by
    unfold eqOk
    split
    · rfl
    · rfl
    · rfl
    · rw [hx, hy]; rfl
  rw [if_pos this]
theorem dNe_of {x y : Da} (hx : shD 8 x = true) (hy : shD 8 y = true) : dNe x y = .ok (.bool (!PyData.eqv x y)) := by
  unfold dNe
  have : eqOk x y = true := by
    unfold eqOk
    split
    · rfl
    · rfl
    · rfl
    · rw [hx, hy]; rfl
  rw [if_pos this]
theorem shD_up : ∀ (d : Da) (k m : Nat), k ≤ m → shD k d = true → shD m d = true := by
  intro d k
  induction k generalizing d with
  | zero =>
    intro m _ h
    cases d <;> (try (cases m <;> first | rfl | exact h))
    all_goals (first | (cases h) | skip)
  | succ k ih =>
    intro m hm h
    obtain ⟨m, rfl⟩ : ∃ q, m = q + 1 := ⟨m - 1, by omega⟩
    cases d with
    | list xs =>
      have h : xs.all (shD k) = true := h
      show xs.all (shD m) = true
      exact List.all_eq_true.mpr fun x hx => ih x m (by omega) (List.all_eq_true.mp h x hx)
    | tuple xs =>
      have h : xs.all (shD k) = true := h
      show xs.all (shD m) = true
      exact List.all_eq_true.mpr fun x hx => ih x m (by omega) (List.all_eq_true.mp h x hx)
    | dict _ => cases h
    | none => rfl
    | bool _ => rfl
    | int _ => rfl
    | str _ => exact h
theorem EqE.deq {α : Type} [DecidableEq α] {k : Nat} {enc : α → Da} (h : EqE k enc) (hk : k ≤ 8) (a b : α) : dEq (enc a) (enc b) = .ok (.bool (decide (a = b))) := by
  rw [dEq_of (shD_up _ k 8 hk (h.sh a)) (shD_up _ k 8 hk (h.sh b)), h.eq]
end Mi

namespace Mi
open PySem PySem.Spec PyProof.Rows L2
def manyS : Da := .str (Str.ofString "many")
def neverS : Da := .str (Str.ofString "never")
theorem sAsg_ap (f : Env → R Da) (g : Da → Env → Option Env) (r : Env) : sAsg f g r = bS r (f r) fun d => match g d r with | some r' => .nx r' | none => .no := rfl
theorem gTp_ap (gs : List Da → Env → Option Env) (n : Nat) (ds : List Da) (r : Env) : gTp gs n (.tuple ds) r = if ds.length = n then gs ds r else none := rfl
theorem gsCons_ap (g : Da → Env → Option Env) (gs : List Da → Env → Option Env) (d : Da) (ds : List Da) (r : Env) : gsCons g gs (d :: ds) r = (g d r).bind (gs ds) := rfl
theorem gsNil_ap (r : Env) : gsNil [] r = some r := rfl
theorem gNm_ap (i : Nat) (d : Da) (r : Env) : gNm i d r = some (r.set i (.fz d)) := rfl
theorem frz_ap (i : Nat) (g : Env → SR) (r : Env) : sFrz i g r = g (frzE i r) := rfl
theorem eAnd_ap (f g : Env → R Da) (r : Env) : eAnd f g r = ((f r).bind fun d => match d with | .bool true => g r | .bool false => .ok (.bool false) | _ => .no) := rfl
theorem eOr_ap (f g : Env → R Da) (r : Env) : eOr f g r = ((f r).bind fun d => match d with | .bool true => .ok (.bool true) | .bool false => g r | _ => .no) := rfl
theorem isN_none : dIs' .none .none = .ok (.bool true) := rfl
theorem isN_list (ds : List Da) : dIs' (.list ds) .none = .ok (.bool false) := rfl
theorem dNe_self {x : Da} (hx : shD 8 x = true) : dNe x x = .ok (.bool false) := by
  rw [dNe_of hx hx, SeqAt.eqv_refl x (shD_all 8 x hx).1]
  rfl
theorem dEq_self {x : Da} (hx : shD 8 x = true) : dEq x x = .ok (.bool true) := by
  rw [dEq_of hx hx, SeqAt.eqv_refl x (shD_all 8 x hx).1]
theorem itL0 (a : Da) (l : List Da) : dItem' (.list (a :: l)) (.int 0) = .ok a := item_L (k := 0) rfl
theorem itL1 (a b : Da) (l : List Da) : dItem' (.list (a :: b :: l)) (.int 1) = .ok b := item_L (k := 1) rfl
theorem itL2 (a b c : Da) (l : List Da) : dItem' (.list (a :: b :: c :: l)) (.int 2) = .ok c := item_L (k := 2) rfl
theorem itL3 (a b c d : Da) (l : List Da) : dItem' (.list (a :: b :: c :: d :: l)) (.int 3) = .ok d := item_L (k := 3) rfl
theorem itL4 (a b c d e : Da) (l : List Da) : dItem' (.list (a :: b :: c :: d :: e :: l)) (.int 4) = .ok e := item_L (k := 4) rfl
theorem itL5 (a b c d e f : Da) (l : List Da) : dItem' (.list (a :: b :: c :: d :: e :: f :: l)) (.int 5) = .ok f := item_L (k := 5) rfl
theorem itT0 (a : Da) (l : List Da) : dItem' (.tuple (a :: l)) (.int 0) = .ok a := item_T (k := 0) rfl
theorem itT1 (a b : Da) (l : List Da) : dItem' (.tuple (a :: b :: l)) (.int 1) = .ok b := item_T (k := 1) rfl
theorem itT2 (a b c : Da) (l : List Da) : dItem' (.tuple (a :: b :: c :: l)) (.int 2) = .ok c := item_T (k := 2) rfl
theorem itT3 (a b c d : Da) (l : List Da) : dItem' (.tuple (a :: b :: c :: d :: l)) (.int 3) = .ok d := item_T (k := 3) rfl
theorem itT4 (a b c d e : Da) (l : List Da) : dItem' (.tuple (a :: b :: c :: d :: e :: l)) (.int 4) = .ok e := item_T (k := 4) rfl
theorem itT5 (a b c d e f : Da) (l : List Da) : dItem' (.tuple (a :: b :: c :: d :: e :: f :: l)) (.int 5) = .ok f := item_T (k := 5) rfl
theorem eRep_ap (f g : Env → R Da) (r : Env) : eRep f g r = (f r).bind fun x => (g r).bind fun y => repD x y := rfl
theorem rep3 (d : Da) : repD (.list [d]) (.int 3) = .ok (.list [d, d, d]) := rfl
theorem rep4 (d : Da) : repD (.list [d]) (.int 4) = .ok (.list [d, d, d, d]) := rfl
theorem rep5 (d : Da) : repD (.list [d]) (.int 5) = .ok (.list [d, d, d, d, d]) := rfl
theorem rep2 (d : Da) : repD (.list [d]) (.int 2) = .ok (.list [d, d]) := rfl
theorem rep6 (d : Da) : repD (.list [d]) (.int 6) = .ok (.list [d, d, d, d, d, d]) := rfl
theorem xNil_ap (r : Env) : xNil r = .ok [] := rfl
theorem xF_ap (f : Env → R Da) (g : Env → R (List Sl)) (r : Env) : xF f g r = (f r).bind fun d => (g r).bind fun ss => .ok (.fz d :: ss) := rfl
theorem xO_ap (f : Env → R Da) (g : Env → R (List Sl)) (r : Env) : xO f g r = (f r).bind fun d => (g r).bind fun ss => .ok (.ow d :: ss) := rfl
theorem sPar2_ap (i j : Nat) (f : Env → R (List Sl)) (r : Env) : sPar2 i j f r = bS r (f r) fun ss => match ss with
  | [a, b] => .nx ((r.set i a).set j b)
  | _ => .no := rfl
theorem eIsi_ap (T : String) (f : Env → R Da) (r : Env) : eIsi T f r = (f r).bind fun d => .ok (.bool (isTy T (tyD d))) := rfl
theorem many_str : PyData.str (Str.ofString "many") = manyS := rfl
theorem never_str : PyData.str (Str.ofString "never") = neverS := rfl
theorem sh_list {m : Nat} {ds : List Da} (h : ∀ d ∈ ds, shD m d = true) : shD (m + 1) (.list ds) = true := by
  show ds.all (shD m) = true
  exact List.all_eq_true.mpr h
end Mi

namespace Mi
open PySem PySem.Spec PyProof.Rows L2
theorem eMs_ap (g : Str → List Da → R Da) (f : Env → R Da) (fs : Env → R (List Da)) (r : Env) : eMs g f fs r = (f r).bind fun d => match d with
  | .str z => (fs r).bind fun ds => (g z ds).calm
  | _ => .no := rfl
end Mi

namespace Mi
open PySem PySem.Spec PyProof.Rows L2
theorem EqE.J (k : Nat) : EqE (k + 1) encJ := ⟨fun j => sh_J k j, fun a b => by
  have q := ((EqE.N k).T).eq [a.1, a.2.1, a.2.2] [b.1, b.2.1, b.2.2]
  have q : PyData.eqv (encJ a) (encJ b) = decide ([a.1, a.2.1, a.2.2] = [b.1, b.2.1, b.2.2]) := q
  rw [q]
  obtain ⟨a1, a2, a3⟩ := a
  obtain ⟨b1, b2, b3⟩ := b
  simp⟩
end Mi

namespace Mi
open PySem PySem.Spec PyProof.Rows L2
inductive Rch (nx : Std → List Mv) : Std → Std → Prop
  | refl (s : Std) : Rch nx s s
  | step {s t : Std} (m : Mv) : m ∈ nx s → Rch nx m.2 t → Rch nx s t
theorem Rch.trans {nx : Std → List Mv} {s t u : Std} (h : Rch nx s t) (h2 : Rch nx t u) : Rch nx s u := by
  induction h with
  | refl => exact h2
  | step m hm _ ih => exact .step m hm (ih h2)
theorem Rch.tail {nx : Std → List Mv} {s t : Std} (h : Rch nx s t) {m : Mv} (hm : m ∈ nx t) : Rch nx s m.2 := h.trans (.step m hm (.refl _))
theorem Rch.len {nx : Std → List Mv} {n : Nat} (hn : ∀ t : Std, t.length = n → ∀ m ∈ nx t, m.2.length = n) {s t : Std} (h : Rch nx s t) (hs : s.length = n) : t.length = n := by
  induction h with
  | refl => exact hs
  | step m hm _ ih => exact ih (hn _ hs m hm)
theorem addNew_nodup {acc : List Std} {ms : List Mv} (h : acc.Nodup) : (addNew acc ms).Nodup := by
  unfold addNew
  induction ms generalizing acc with
  | nil => exact h
  | cons m ms ih =>
    rw [List.foldl_cons]
    refine ih ?_
    by_cases c : m.2 ∈ acc
    · rw [if_pos c]; exact h
    · rw [if_neg c]
      refine List.nodup_append.mpr ⟨h, by simp, fun x hx y hy => ?_⟩
      rw [List.mem_singleton.mp hy]
      exact fun e => c (e ▸ hx)
theorem addNew_pre (acc : List Std) (ms : List Mv) : ∃ r, addNew acc ms = acc ++ r := by
  unfold addNew
  induction ms generalizing acc with
  | nil => exact ⟨[], (List.append_nil _).symm⟩
  | cons m ms ih =>
    rw [List.foldl_cons]
    by_cases c : m.2 ∈ acc
    · rw [if_pos c]; exact ih acc
    · rw [if_neg c]
      obtain ⟨r, e⟩ := ih (acc ++ [m.2])
      exact ⟨m.2 :: r, by rw [e, List.append_assoc]; rfl⟩
theorem bfs_spec {nx : Std → List Mv} {s : Std} : ∀ (f k : Nat) (row l : List Std), row.Nodup → (∀ t ∈ row, Rch nx s t) → (∀ i t, i < k → row[i]? = some t → ∀ m ∈ nx t, m.2 ∈ row) → bfs nx f k row = some l → l.Nodup ∧ (∀ t ∈ l, Rch nx s t) ∧ (∀ t ∈ l, ∀ m ∈ nx t, m.2 ∈ l)
  | 0, _, _, _, _, _, _, e => by cases e
  | f + 1, k, row, l, hn, hr, hc, e => by
    unfold bfs at e
    cases hq : row[k]? with
    | none =>
      rw [hq] at e
      cases e
      refine ⟨hn, hr, fun t ht m hm => ?_⟩
      obtain ⟨i, hi, e2⟩ := List.getElem_of_mem ht
      have := List.getElem?_eq_none_iff.mp hq
      exact hc i t (by omega) (by rw [List.getElem?_eq_getElem hi, e2]) m hm
    | some t =>
      rw [hq] at e
      dsimp only at e
      by_cases hb : 80 < (addNew row (nx t)).length
      · rw [if_pos hb] at e
        cases e
      · rw [if_neg hb] at e
        have ht := List.mem_of_getElem? hq
        refine bfs_spec f (k + 1) _ l (addNew_nodup hn) (fun u hu => ?_) (fun i u hi hu m hm => ?_) e
        · rcases addNew_mem.mp hu with hu | ⟨m, hm, rfl⟩
          · exact hr u hu
          · exact (hr t ht).tail hm
        · obtain ⟨r, er⟩ := addNew_pre row (nx t)
          have hkl := (List.getElem?_eq_some_iff.mp hq).1
          rw [er, List.getElem?_append_left (by omega)] at hu
          by_cases c : i = k
          · subst c
            rw [hq] at hu
            cases hu
            exact addNew_mem.mpr (.inr ⟨m, hm, rfl⟩)
          · exact addNew_mem.mpr (.inl (hc i u (by omega) hu m hm))
theorem bfs_iff {nx : Std → List Mv} {s : Std} {l : List Std} (e : bfs nx 100 0 [s] = some l) : l.Nodup ∧ ∀ t, t ∈ l ↔ Rch nx s t := by
  obtain ⟨h1, h2, h3⟩ := bfs_spec (s := s) 100 0 [s] l (by simp) (fun t ht => by rw [List.mem_singleton.mp ht]; exact .refl s) (fun i t hi => by omega) e
  refine ⟨h1, fun t => ⟨h2 t, fun h => ?_⟩⟩
  have h0 : s ∈ l := by
    have key : ∀ (f k : Nat) (row l : List Std), bfs nx f k row = some l → ∀ t ∈ row, t ∈ l := by
      intro f
      induction f with
      | zero => intro k row l e; cases e
      | succ f ih =>
        intro k row l e t ht
        unfold bfs at e
        cases hq : row[k]? with
        | none =>
          rw [hq] at e
          cases e
          exact ht
        | some u =>
          rw [hq] at e
          dsimp only at e
          by_cases hb : 80 < (addNew row (nx u)).length
          · rw [if_pos hb] at e
            cases e
          · rw [if_neg hb] at e
            exact ih _ _ _ e t (addNew_mem.mpr (.inl ht))
    exact key _ _ _ _ e s (List.mem_singleton.mpr rfl)
  have key : ∀ a b, Rch nx a b → a ∈ l → b ∈ l := by
    intro a b hab
    induction hab with
    | refl => exact fun h => h
    | step m hm _ ih => exact fun ha => ih (h3 _ ha m hm)
  exact key s t h h0
abbrev Come (w : Wd) (s t : Std) : Prop := Rch (movesL w) s t
theorem from_iff {w : Wd} {s : Std} {l : List Std} (e : allFrom w s = some l) (t : Std) : t ∈ l ↔ Come w s t := (bfs_iff e).2 t
theorem back_moves {w : Wd} (h : WOk w) {s : Std} (hs : s.length = w.n) {m : Mv} (hm : m ∈ backL w s) : (m.1, s) ∈ movesL w m.2 ∧ m.2.length = w.n := by
  obtain ⟨i, j, e1, e2, e3, e4⟩ := steps_mem.mp hm
  have hj := h.ok j (List.mem_of_getElem? e1)
  refine ⟨steps_mem.mpr ⟨i, j, e1, by simpa using e2, ?_, ?_⟩, by rw [e4, putL_len]; exact hs⟩
  · rw [e4]
    exact hasL_put hj hs true true false
  · show s = putL m.2 j false false true
    rw [e4]
    exact (putL_back hj hs true true false e3).symm
theorem back_iff {w : Wd} (h : WOk w) {s g : Std} (hg : g.length = w.n) : Rch (backL w) g s ↔ (Come w s g ∧ s.length = w.n) := by
  constructor
  · intro hr
    induction hr with
    | refl => exact ⟨.refl _, hg⟩
    | step m hm _ ih =>
      obtain ⟨a, b⟩ := back_moves h hg hm
      obtain ⟨c, d⟩ := ih b
      exact ⟨c.tail a, d⟩
  · rintro ⟨hr, hs⟩
    induction hr with
    | refl => exact .refl _
    | step m hm hr ih =>
      obtain ⟨a, b, _⟩ := moves_back h hs hm
      have h2 := ih hg b
      exact h2.tail (m := (m.1, _)) a
theorem to_iff {w : Wd} (h : WOk w) {g : Std} (hg : g.length = w.n) {l : List Std} (e : allTo w g = some l) (t : Std) : t ∈ l ↔ (Come w t g ∧ t.length = w.n) := ((bfs_iff e).2 t).trans (back_iff h hg)
theorem Come.len {w : Wd} (h : WOk w) {s t : Std} (hs : s.length = w.n) (c : Come w s t) : t.length = w.n := Rch.len (fun t ht => (moves_nx h t ht).2.2) c hs
def pegs (s : Std) : Nat := s.count true
theorem pegs_set : ∀ (s : Std) (k : Nat) (b : Bool), k < s.length → pegs (s.set k b) + (if s.getD k false then 1 else 0) = pegs s + (if b then 1 else 0)
  | [], k, b, h => by simp at h
  | a :: s, 0, b, _ => by
    unfold pegs
    simp only [List.set_cons_zero, List.count_cons, List.getD_cons_zero]
    cases a <;> cases b <;> simp
  | a :: s, k + 1, b, h => by
    have ih := pegs_set s k b (by simpa using h)
    unfold pegs at ih ⊢
    simp only [List.set_cons_succ, List.count_cons, List.getD_cons_succ]
    omega
theorem pegs_put {n : Nat} {s : Std} {j : Jm} (hj : JOk n j) (hs : s.length = n) (h : hasL s j true true false = true) : pegs (putL s j false false true) + 1 = pegs s := by
  unfold hasL at h
  rw [Bool.and_eq_true, Bool.and_eq_true] at h
  have e1 : s.getD j.1 false = true := by simpa using h.1
  have e2 : s.getD j.2.1 false = true := by simpa using h.2.1
  have e3 : s.getD j.2.2 false = false := by simpa using h.2.2
  have h1 : j.1 < s.length := by rw [hs]; exact hj.a
  have h2 : j.2.1 < s.length := by rw [hs]; exact hj.b
  have h3 : j.2.2 < s.length := by rw [hs]; exact hj.c
  have q1 := pegs_set s j.1 false h1
  have q2 := pegs_set (s.set j.1 false) j.2.1 false (by rw [List.length_set]; exact h2)
  have q3 := pegs_set ((s.set j.1 false).set j.2.1 false) j.2.2 true (by rw [List.length_set, List.length_set]; exact h3)
  rw [getD_set_ne hj.ab, e2] at q2
  rw [getD_set_ne hj.bc, getD_set_ne hj.ac, e3] at q3
  rw [e1] at q1
  unfold putL
  simp only [if_true, Bool.false_eq_true, if_false] at q1 q2 q3
  omega
theorem pegs_move {w : Wd} (h : WOk w) {s : Std} (hs : s.length = w.n) {m : Mv} (hm : m ∈ movesL w s) : pegs m.2 + 1 = pegs s := by
  obtain ⟨_, _, j, e1, e2, e3⟩ := moves_back h hs hm
  rw [e3]
  exact pegs_put (h.ok j (List.mem_of_getElem? e1)) hs e2
end Mi

namespace Mi
open PySem PySem.Spec PyProof.Rows L2
inductive RowTo (w : Wd) : Std → List Nat → Std → Prop
  | nil (s : Std) : RowTo w s [] s
  | cons {s t : Std} {r : List Nat} (m : Mv) : m ∈ movesL w s → RowTo w m.2 r t → RowTo w s (m.1 :: r) t
theorem RowTo.come {w : Wd} {s t : Std} {r : List Nat} (h : RowTo w s r t) : Come w s t := by
  induction h with
  | nil => exact .refl _
  | cons m hm _ ih => exact .step m hm ih
theorem RowTo.pegs {w : Wd} (h : WOk w) {s t : Std} {r : List Nat} (q : RowTo w s r t) (hs : s.length = w.n) : pegs t + r.length = pegs s := by
  induction q with
  | nil => rfl
  | cons m hm _ ih =>
    have := pegs_move h hs hm
    have := ih ((moves_nx h _ hs).2.2 m hm)
    rw [List.length_cons]
    omega
end Mi

namespace Mi
open PySem PySem.Spec PyProof.Rows L2
def txt (l : List Nat) : Da := .str ⟨l.toArray⟩
theorem txt_str {a b : List Nat} (h : (⟨a.toArray⟩ : Str) = ⟨b.toArray⟩) : a = b := by
  have h1 : a.toArray = b.toArray := congrArg Str.cps h
  simpa using h1
theorem txt_len (l : List Nat) : (⟨l.toArray⟩ : Str).length = l.length := by
  show l.toArray.size = _
  simp
theorem eqv_X (a b : List Nat) : PyData.eqv (txt a) (txt b) = decide (a = b) := by
  show PyData.eqv (.str _) (.str _) = _
  rw [eqv_str]
  by_cases h : a = b
  · subst h; simp
  · rw [decide_eq_false h, decide_eq_false fun e => h (txt_str e)]
theorem lay_X {l : List Nat} (h : ∀ c ∈ l, c < 1000) : PyData.canLay0 (txt l) = true := by
  unfold txt
  simp only [PyData.canLay0]
  show (l.toArray.all fun c => decide (c < 0x110000)) = true
  simp only [List.all_toArray, List.all_eq_true, decide_eq_true_eq]
  intro c hc
  have := h c hc
  omega
theorem sh_X {l : List Nat} (m : Nat) (h : ∀ c ∈ l, c < 1000) : shD m (txt l) = true := by
  cases m <;> exact lay_X h
theorem str_txt (z : String) (l : List Nat) (h : (Str.ofString z).cps.toList = l) : (PyData.str (Str.ofString z)) = txt l := by
  unfold txt
  subst h
  rfl
theorem c_o : (PyData.str (Str.ofString "o")) = txt [111] := str_txt _ _ (by decide +kernel)
abbrev Mk := List Bool
def cb (b : Bool) : Nat := if b then 49 else 48
def encK (m : Mk) : Da := txt (m.map cb)
theorem cb_inj {a b : Bool} (h : cb a = cb b) : a = b := by revert h; cases a <;> cases b <;> decide
theorem cb_lt (b : Bool) : cb b < 1000 := by cases b <;> decide
theorem map_cb {a b : Mk} (h : a.map cb = b.map cb) : a = b := (List.map_inj_right (fun _ _ e => cb_inj e)).mp h
theorem EqE.K (k : Nat) : EqE k encK := ⟨fun m => sh_X k (fun c hc => by
    obtain ⟨b, _, rfl⟩ := List.mem_map.mp hc
    exact cb_lt b), fun a b => by
  show PyData.eqv (txt _) (txt _) = _
  rw [eqv_X]
  by_cases h : a = b
  · subst h; simp
  · rw [decide_eq_false h, decide_eq_false fun e => h (map_cb e)]⟩
end Mi

namespace Mi
open PySem PySem.Spec PyProof.Rows L2
abbrev eK (w : Wd) (rows : List Mk) (c : Nat) (rd : List Jm) (A4 : Sl) (acc : List Mk) (A6 A7 A8 A9 : Sl) : Env := [.fz (encW w), .fz (.list (rows.map encK)), .fz (encN c), .fz (.list (rd.map encJ)), A4, .ow (.list (acc.map encK)), A6, A7, A8, A9]
end Mi

namespace Mi
open PySem PySem.Spec PyProof.Rows L2
def inRg (lo hi : Int) : Da → Bool
  | .int i => decide (lo ≤ i) && decide (i ≤ hi)
  | _ => false
theorem isInt (d : Da) : isTy "int" (tyD d) = match d with | .int _ => true | .bool _ => true | _ => false := by
  cases d with
  | bool b => cases b <;> decide +kernel
  | none => decide +kernel
  | int _ => show isTy "int" "int" = true; decide +kernel
  | str _ => show isTy "int" "str" = false; decide +kernel
  | list _ => show isTy "int" "list" = false; decide +kernel
  | tuple _ => show isTy "int" "tuple" = false; decide +kernel
  | dict _ => show isTy "int" "dict" = false; decide +kernel
theorem isBl (d : Da) : isTy "bool" (tyD d) = match d with | .bool _ => true | _ => false := by
  cases d with
  | bool b => cases b <;> decide +kernel
  | none => decide +kernel
  | int _ => show isTy "bool" "int" = false; decide +kernel
  | str _ => show isTy "bool" "str" = false; decide +kernel
  | list _ => show isTy "bool" "list" = false; decide +kernel
  | tuple _ => show isTy "bool" "tuple" = false; decide +kernel
  | dict _ => show isTy "bool" "dict" = false; decide +kernel
theorem eNt_ap (f : Env → R Da) (r : Env) : eNt f r = (f r).bind fun d => (truthD d).bind fun b => .ok (.bool (!b)) := rfl
theorem within_d (d : Da) (lo hi : Int) : m_is_within [d, .int lo, .int hi] = .ok (.bool (inRg lo hi d)) := by
  cases d with
  | int i => exact within_ok i lo hi
  | bool b => simp (config := { decide := false }) only [_root_.Mi.v0, _root_.Mi.vS, _root_.Mi.rd0f, _root_.Mi.rd0o, _root_.Mi.rdS, _root_.Mi.iteT, _root_.Mi.iteF, bS_ok, bS_er, bS_no, oNo, sSeq_ap, sSet_ap, sOwn_ap, sExp_ap, sRet_ap, sIf_ap, sNil_ap, eBin_ap, eCall_ap, aCons_ap, aNil_ap, eC_ap, tB_ap, isB_ap, tNot_ap, tAnd_ap, tOr_ap, tTru_ap, _root_.Mi.truB, _root_.Mi.truL, _root_.Mi.truT, _root_.Mi.truI, fn_ap, _root_.Mi.env2, oRt, oNx, oEr, sRaise_ap, _root_.Mi.R.ok_bind, _root_.Mi.R.er_bind, _root_.Mi.R.no_bind, _root_.Mi.R.calm_ok, _root_.Mi.R.calm_no, List.set_cons_zero, List.set_cons_succ, List.length_cons, List.length_nil, List.map_cons, List.map_nil, List.replicate_zero, List.replicate_succ, List.cons_append, List.nil_append, Nat.reduceAdd, Nat.reduceSub, Nat.reduceEqDiff, if_true, if_false, Bool.not_true, Bool.not_false, ite_true, ite_false, reduceIte, Nat.zero_add, eBl_ap, len_L, len_T, lt_I, le_I, gt_I, sFor_ap, iD_ap, itemsL, itemsT, itemsDi, sAug_ap, List.getElem?_cons_succ, List.getElem?_cons_zero, eLst_ap, eTup_ap, mkL_ap, mkT_ap, Nat.reduceLeDiff, frzA_ap, frzA, List.length_map, wipe_nil, wipe_cons, eFz_ap, isL_ap, _root_.Mi.w0, _root_.Mi.w1, add_I, sub_I, eqInt, neInt, within_ok, sAsg_ap, gTp_ap, gsCons_ap, gsNil_ap, gNm_ap, Option.bind_some, frz_ap, frzE, eAnd_ap, eOr_ap, isN_none, isN_list, eIf_ap, iR1_ap, itL0, itL1, itL2, itL3, itL4, itL5, itT0, itT1, itT2, itT3, itT4, itT5, eRep_ap, rep2, rep3, rep4, rep5, rep6, xNil_ap, xF_ap, xO_ap, sPar2_ap, eIsi_ap, many_str, never_str, m_is_within, b_is_within, isInt, isBl, inRg, eNt_ap]
  | none => simp (config := { decide := false }) only [_root_.Mi.v0, _root_.Mi.vS, _root_.Mi.rd0f, _root_.Mi.rd0o, _root_.Mi.rdS, _root_.Mi.iteT, _root_.Mi.iteF, bS_ok, bS_er, bS_no, oNo, sSeq_ap, sSet_ap, sOwn_ap, sExp_ap, sRet_ap, sIf_ap, sNil_ap, eBin_ap, eCall_ap, aCons_ap, aNil_ap, eC_ap, tB_ap, isB_ap, tNot_ap, tAnd_ap, tOr_ap, tTru_ap, _root_.Mi.truB, _root_.Mi.truL, _root_.Mi.truT, _root_.Mi.truI, fn_ap, _root_.Mi.env2, oRt, oNx, oEr, sRaise_ap, _root_.Mi.R.ok_bind, _root_.Mi.R.er_bind, _root_.Mi.R.no_bind, _root_.Mi.R.calm_ok, _root_.Mi.R.calm_no, List.set_cons_zero, List.set_cons_succ, List.length_cons, List.length_nil, List.map_cons, List.map_nil, List.replicate_zero, List.replicate_succ, List.cons_append, List.nil_append, Nat.reduceAdd, Nat.reduceSub, Nat.reduceEqDiff, if_true, if_false, Bool.not_true, Bool.not_false, ite_true, ite_false, reduceIte, Nat.zero_add, eBl_ap, len_L, len_T, lt_I, le_I, gt_I, sFor_ap, iD_ap, itemsL, itemsT, itemsDi, sAug_ap, List.getElem?_cons_succ, List.getElem?_cons_zero, eLst_ap, eTup_ap, mkL_ap, mkT_ap, Nat.reduceLeDiff, frzA_ap, frzA, List.length_map, wipe_nil, wipe_cons, eFz_ap, isL_ap, _root_.Mi.w0, _root_.Mi.w1, add_I, sub_I, eqInt, neInt, within_ok, sAsg_ap, gTp_ap, gsCons_ap, gsNil_ap, gNm_ap, Option.bind_some, frz_ap, frzE, eAnd_ap, eOr_ap, isN_none, isN_list, eIf_ap, iR1_ap, itL0, itL1, itL2, itL3, itL4, itL5, itT0, itT1, itT2, itT3, itT4, itT5, eRep_ap, rep2, rep3, rep4, rep5, rep6, xNil_ap, xF_ap, xO_ap, sPar2_ap, eIsi_ap, many_str, never_str, m_is_within, b_is_within, isInt, isBl, inRg]
  | str _ => simp (config := { decide := false }) only [_root_.Mi.v0, _root_.Mi.vS, _root_.Mi.rd0f, _root_.Mi.rd0o, _root_.Mi.rdS, _root_.Mi.iteT, _root_.Mi.iteF, bS_ok, bS_er, bS_no, oNo, sSeq_ap, sSet_ap, sOwn_ap, sExp_ap, sRet_ap, sIf_ap, sNil_ap, eBin_ap, eCall_ap, aCons_ap, aNil_ap, eC_ap, tB_ap, isB_ap, tNot_ap, tAnd_ap, tOr_ap, tTru_ap, _root_.Mi.truB, _root_.Mi.truL, _root_.Mi.truT, _root_.Mi.truI, fn_ap, _root_.Mi.env2, oRt, oNx, oEr, sRaise_ap, _root_.Mi.R.ok_bind, _root_.Mi.R.er_bind, _root_.Mi.R.no_bind, _root_.Mi.R.calm_ok, _root_.Mi.R.calm_no, List.set_cons_zero, List.set_cons_succ, List.length_cons, List.length_nil, List.map_cons, List.map_nil, List.replicate_zero, List.replicate_succ, List.cons_append, List.nil_append, Nat.reduceAdd, Nat.reduceSub, Nat.reduceEqDiff, if_true, if_false, Bool.not_true, Bool.not_false, ite_true, ite_false, reduceIte, Nat.zero_add, eBl_ap, len_L, len_T, lt_I, le_I, gt_I, sFor_ap, iD_ap, itemsL, itemsT, itemsDi, sAug_ap, List.getElem?_cons_succ, List.getElem?_cons_zero, eLst_ap, eTup_ap, mkL_ap, mkT_ap, Nat.reduceLeDiff, frzA_ap, frzA, List.length_map, wipe_nil, wipe_cons, eFz_ap, isL_ap, _root_.Mi.w0, _root_.Mi.w1, add_I, sub_I, eqInt, neInt, within_ok, sAsg_ap, gTp_ap, gsCons_ap, gsNil_ap, gNm_ap, Option.bind_some, frz_ap, frzE, eAnd_ap, eOr_ap, isN_none, isN_list, eIf_ap, iR1_ap, itL0, itL1, itL2, itL3, itL4, itL5, itT0, itT1, itT2, itT3, itT4, itT5, eRep_ap, rep2, rep3, rep4, rep5, rep6, xNil_ap, xF_ap, xO_ap, sPar2_ap, eIsi_ap, many_str, never_str, m_is_within, b_is_within, isInt, isBl, inRg]
  | list _ => simp (config := { decide := false }) only [_root_.Mi.v0, _root_.Mi.vS, _root_.Mi.rd0f, _root_.Mi.rd0o, _root_.Mi.rdS, _root_.Mi.iteT, _root_.Mi.iteF, bS_ok, bS_er, bS_no, oNo, sSeq_ap, sSet_ap, sOwn_ap, sExp_ap, sRet_ap, sIf_ap, sNil_ap, eBin_ap, eCall_ap, aCons_ap, aNil_ap, eC_ap, tB_ap, isB_ap, tNot_ap, tAnd_ap, tOr_ap, tTru_ap, _root_.Mi.truB, _root_.Mi.truL, _root_.Mi.truT, _root_.Mi.truI, fn_ap, _root_.Mi.env2, oRt, oNx, oEr, sRaise_ap, _root_.Mi.R.ok_bind, _root_.Mi.R.er_bind, _root_.Mi.R.no_bind, _root_.Mi.R.calm_ok, _root_.Mi.R.calm_no, List.set_cons_zero, List.set_cons_succ, List.length_cons, List.length_nil, List.map_cons, List.map_nil, List.replicate_zero, List.replicate_succ, List.cons_append, List.nil_append, Nat.reduceAdd, Nat.reduceSub, Nat.reduceEqDiff, if_true, if_false, Bool.not_true, Bool.not_false, ite_true, ite_false, reduceIte, Nat.zero_add, eBl_ap, len_L, len_T, lt_I, le_I, gt_I, sFor_ap, iD_ap, itemsL, itemsT, itemsDi, sAug_ap, List.getElem?_cons_succ, List.getElem?_cons_zero, eLst_ap, eTup_ap, mkL_ap, mkT_ap, Nat.reduceLeDiff, frzA_ap, frzA, List.length_map, wipe_nil, wipe_cons, eFz_ap, isL_ap, _root_.Mi.w0, _root_.Mi.w1, add_I, sub_I, eqInt, neInt, within_ok, sAsg_ap, gTp_ap, gsCons_ap, gsNil_ap, gNm_ap, Option.bind_some, frz_ap, frzE, eAnd_ap, eOr_ap, isN_none, isN_list, eIf_ap, iR1_ap, itL0, itL1, itL2, itL3, itL4, itL5, itT0, itT1, itT2, itT3, itT4, itT5, eRep_ap, rep2, rep3, rep4, rep5, rep6, xNil_ap, xF_ap, xO_ap, sPar2_ap, eIsi_ap, many_str, never_str, m_is_within, b_is_within, isInt, isBl, inRg]
  | tuple _ => simp (config := { decide := false }) only [_root_.Mi.v0, _root_.Mi.vS, _root_.Mi.rd0f, _root_.Mi.rd0o, _root_.Mi.rdS, _root_.Mi.iteT, _root_.Mi.iteF, bS_ok, bS_er, bS_no, oNo, sSeq_ap, sSet_ap, sOwn_ap, sExp_ap, sRet_ap, sIf_ap, sNil_ap, eBin_ap, eCall_ap, aCons_ap, aNil_ap, eC_ap, tB_ap, isB_ap, tNot_ap, tAnd_ap, tOr_ap, tTru_ap, _root_.Mi.truB, _root_.Mi.truL, _root_.Mi.truT, _root_.Mi.truI, fn_ap, _root_.Mi.env2, oRt, oNx, oEr, sRaise_ap, _root_.Mi.R.ok_bind, _root_.Mi.R.er_bind, _root_.Mi.R.no_bind, _root_.Mi.R.calm_ok, _root_.Mi.R.calm_no, List.set_cons_zero, List.set_cons_succ, List.length_cons, List.length_nil, List.map_cons, List.map_nil, List.replicate_zero, List.replicate_succ, List.cons_append, List.nil_append, Nat.reduceAdd, Nat.reduceSub, Nat.reduceEqDiff, if_true, if_false, Bool.not_true, Bool.not_false, ite_true, ite_false, reduceIte, Nat.zero_add, eBl_ap, len_L, len_T, lt_I, le_I, gt_I, sFor_ap, iD_ap, itemsL, itemsT, itemsDi, sAug_ap, List.getElem?_cons_succ, List.getElem?_cons_zero, eLst_ap, eTup_ap, mkL_ap, mkT_ap, Nat.reduceLeDiff, frzA_ap, frzA, List.length_map, wipe_nil, wipe_cons, eFz_ap, isL_ap, _root_.Mi.w0, _root_.Mi.w1, add_I, sub_I, eqInt, neInt, within_ok, sAsg_ap, gTp_ap, gsCons_ap, gsNil_ap, gNm_ap, Option.bind_some, frz_ap, frzE, eAnd_ap, eOr_ap, isN_none, isN_list, eIf_ap, iR1_ap, itL0, itL1, itL2, itL3, itL4, itL5, itT0, itT1, itT2, itT3, itT4, itT5, eRep_ap, rep2, rep3, rep4, rep5, rep6, xNil_ap, xF_ap, xO_ap, sPar2_ap, eIsi_ap, many_str, never_str, m_is_within, b_is_within, isInt, isBl, inRg]
  | dict _ => simp (config := { decide := false }) only [_root_.Mi.v0, _root_.Mi.vS, _root_.Mi.rd0f, _root_.Mi.rd0o, _root_.Mi.rdS, _root_.Mi.iteT, _root_.Mi.iteF, bS_ok, bS_er, bS_no, oNo, sSeq_ap, sSet_ap, sOwn_ap, sExp_ap, sRet_ap, sIf_ap, sNil_ap, eBin_ap, eCall_ap, aCons_ap, aNil_ap, eC_ap, tB_ap, isB_ap, tNot_ap, tAnd_ap, tOr_ap, tTru_ap, _root_.Mi.truB, _root_.Mi.truL, _root_.Mi.truT, _root_.Mi.truI, fn_ap, _root_.Mi.env2, oRt, oNx, oEr, sRaise_ap, _root_.Mi.R.ok_bind, _root_.Mi.R.er_bind, _root_.Mi.R.no_bind, _root_.Mi.R.calm_ok, _root_.Mi.R.calm_no, List.set_cons_zero, List.set_cons_succ, List.length_cons, List.length_nil, List.map_cons, List.map_nil, List.replicate_zero, List.replicate_succ, List.cons_append, List.nil_append, Nat.reduceAdd, Nat.reduceSub, Nat.reduceEqDiff, if_true, if_false, Bool.not_true, Bool.not_false, ite_true, ite_false, reduceIte, Nat.zero_add, eBl_ap, len_L, len_T, lt_I, le_I, gt_I, sFor_ap, iD_ap, itemsL, itemsT, itemsDi, sAug_ap, List.getElem?_cons_succ, List.getElem?_cons_zero, eLst_ap, eTup_ap, mkL_ap, mkT_ap, Nat.reduceLeDiff, frzA_ap, frzA, List.length_map, wipe_nil, wipe_cons, eFz_ap, isL_ap, _root_.Mi.w0, _root_.Mi.w1, add_I, sub_I, eqInt, neInt, within_ok, sAsg_ap, gTp_ap, gsCons_ap, gsNil_ap, gNm_ap, Option.bind_some, frz_ap, frzE, eAnd_ap, eOr_ap, isN_none, isN_list, eIf_ap, iR1_ap, itL0, itL1, itL2, itL3, itL4, itL5, itT0, itT1, itT2, itT3, itT4, itT5, eRep_ap, rep2, rep3, rep4, rep5, rep6, xNil_ap, xF_ap, xO_ap, sPar2_ap, eIsi_ap, many_str, never_str, m_is_within, b_is_within, isInt, isBl, inRg]
theorem in_d (d : Da) (lo hi : Int) : m__law_in [d, .int lo, .int hi] = .ok (.bool (inRg lo hi d)) := by
  cases d with
  | int i =>
    simp (config := { decide := false }) only [_root_.Mi.v0, _root_.Mi.vS, _root_.Mi.rd0f, _root_.Mi.rd0o, _root_.Mi.rdS, _root_.Mi.iteT, _root_.Mi.iteF, bS_ok, bS_er, bS_no, oNo, sSeq_ap, sSet_ap, sOwn_ap, sExp_ap, sRet_ap, sIf_ap, sNil_ap, eBin_ap, eCall_ap, aCons_ap, aNil_ap, eC_ap, tB_ap, isB_ap, tNot_ap, tAnd_ap, tOr_ap, tTru_ap, _root_.Mi.truB, _root_.Mi.truL, _root_.Mi.truT, _root_.Mi.truI, fn_ap, _root_.Mi.env2, oRt, oNx, oEr, sRaise_ap, _root_.Mi.R.ok_bind, _root_.Mi.R.er_bind, _root_.Mi.R.no_bind, _root_.Mi.R.calm_ok, _root_.Mi.R.calm_no, List.set_cons_zero, List.set_cons_succ, List.length_cons, List.length_nil, List.map_cons, List.map_nil, List.replicate_zero, List.replicate_succ, List.cons_append, List.nil_append, Nat.reduceAdd, Nat.reduceSub, Nat.reduceEqDiff, if_true, if_false, Bool.not_true, Bool.not_false, ite_true, ite_false, reduceIte, Nat.zero_add, eBl_ap, len_L, len_T, lt_I, le_I, gt_I, sFor_ap, iD_ap, itemsL, itemsT, itemsDi, sAug_ap, List.getElem?_cons_succ, List.getElem?_cons_zero, eLst_ap, eTup_ap, mkL_ap, mkT_ap, Nat.reduceLeDiff, frzA_ap, frzA, List.length_map, wipe_nil, wipe_cons, eFz_ap, isL_ap, _root_.Mi.w0, _root_.Mi.w1, add_I, sub_I, eqInt, neInt, within_ok, sAsg_ap, gTp_ap, gsCons_ap, gsNil_ap, gNm_ap, Option.bind_some, frz_ap, frzE, eAnd_ap, eOr_ap, isN_none, isN_list, eIf_ap, iR1_ap, itL0, itL1, itL2, itL3, itL4, itL5, itT0, itT1, itT2, itT3, itT4, itT5, eRep_ap, rep2, rep3, rep4, rep5, rep6, xNil_ap, xF_ap, xO_ap, sPar2_ap, eIsi_ap, many_str, never_str, m__law_in, b__law_in, isInt, isBl, inRg, eNt_ap, eChain_ap]
    cases decide (lo ≤ i) <;> rfl
  | bool b => simp (config := { decide := false }) only [_root_.Mi.v0, _root_.Mi.vS, _root_.Mi.rd0f, _root_.Mi.rd0o, _root_.Mi.rdS, _root_.Mi.iteT, _root_.Mi.iteF, bS_ok, bS_er, bS_no, oNo, sSeq_ap, sSet_ap, sOwn_ap, sExp_ap, sRet_ap, sIf_ap, sNil_ap, eBin_ap, eCall_ap, aCons_ap, aNil_ap, eC_ap, tB_ap, isB_ap, tNot_ap, tAnd_ap, tOr_ap, tTru_ap, _root_.Mi.truB, _root_.Mi.truL, _root_.Mi.truT, _root_.Mi.truI, fn_ap, _root_.Mi.env2, oRt, oNx, oEr, sRaise_ap, _root_.Mi.R.ok_bind, _root_.Mi.R.er_bind, _root_.Mi.R.no_bind, _root_.Mi.R.calm_ok, _root_.Mi.R.calm_no, List.set_cons_zero, List.set_cons_succ, List.length_cons, List.length_nil, List.map_cons, List.map_nil, List.replicate_zero, List.replicate_succ, List.cons_append, List.nil_append, Nat.reduceAdd, Nat.reduceSub, Nat.reduceEqDiff, if_true, if_false, Bool.not_true, Bool.not_false, ite_true, ite_false, reduceIte, Nat.zero_add, eBl_ap, len_L, len_T, lt_I, le_I, gt_I, sFor_ap, iD_ap, itemsL, itemsT, itemsDi, sAug_ap, List.getElem?_cons_succ, List.getElem?_cons_zero, eLst_ap, eTup_ap, mkL_ap, mkT_ap, Nat.reduceLeDiff, frzA_ap, frzA, List.length_map, wipe_nil, wipe_cons, eFz_ap, isL_ap, _root_.Mi.w0, _root_.Mi.w1, add_I, sub_I, eqInt, neInt, within_ok, sAsg_ap, gTp_ap, gsCons_ap, gsNil_ap, gNm_ap, Option.bind_some, frz_ap, frzE, eAnd_ap, eOr_ap, isN_none, isN_list, eIf_ap, iR1_ap, itL0, itL1, itL2, itL3, itL4, itL5, itT0, itT1, itT2, itT3, itT4, itT5, eRep_ap, rep2, rep3, rep4, rep5, rep6, xNil_ap, xF_ap, xO_ap, sPar2_ap, eIsi_ap, many_str, never_str, m__law_in, b__law_in, isInt, isBl, inRg, eNt_ap]
  | none => simp (config := { decide := false }) only [_root_.Mi.v0, _root_.Mi.vS, _root_.Mi.rd0f, _root_.Mi.rd0o, _root_.Mi.rdS, _root_.Mi.iteT, _root_.Mi.iteF, bS_ok, bS_er, bS_no, oNo, sSeq_ap, sSet_ap, sOwn_ap, sExp_ap, sRet_ap, sIf_ap, sNil_ap, eBin_ap, eCall_ap, aCons_ap, aNil_ap, eC_ap, tB_ap, isB_ap, tNot_ap, tAnd_ap, tOr_ap, tTru_ap, _root_.Mi.truB, _root_.Mi.truL, _root_.Mi.truT, _root_.Mi.truI, fn_ap, _root_.Mi.env2, oRt, oNx, oEr, sRaise_ap, _root_.Mi.R.ok_bind, _root_.Mi.R.er_bind, _root_.Mi.R.no_bind, _root_.Mi.R.calm_ok, _root_.Mi.R.calm_no, List.set_cons_zero, List.set_cons_succ, List.length_cons, List.length_nil, List.map_cons, List.map_nil, List.replicate_zero, List.replicate_succ, List.cons_append, List.nil_append, Nat.reduceAdd, Nat.reduceSub, Nat.reduceEqDiff, if_true, if_false, Bool.not_true, Bool.not_false, ite_true, ite_false, reduceIte, Nat.zero_add, eBl_ap, len_L, len_T, lt_I, le_I, gt_I, sFor_ap, iD_ap, itemsL, itemsT, itemsDi, sAug_ap, List.getElem?_cons_succ, List.getElem?_cons_zero, eLst_ap, eTup_ap, mkL_ap, mkT_ap, Nat.reduceLeDiff, frzA_ap, frzA, List.length_map, wipe_nil, wipe_cons, eFz_ap, isL_ap, _root_.Mi.w0, _root_.Mi.w1, add_I, sub_I, eqInt, neInt, within_ok, sAsg_ap, gTp_ap, gsCons_ap, gsNil_ap, gNm_ap, Option.bind_some, frz_ap, frzE, eAnd_ap, eOr_ap, isN_none, isN_list, eIf_ap, iR1_ap, itL0, itL1, itL2, itL3, itL4, itL5, itT0, itT1, itT2, itT3, itT4, itT5, eRep_ap, rep2, rep3, rep4, rep5, rep6, xNil_ap, xF_ap, xO_ap, sPar2_ap, eIsi_ap, many_str, never_str, m__law_in, b__law_in, isInt, isBl, inRg]
  | str _ => simp (config := { decide := false }) only [_root_.Mi.v0, _root_.Mi.vS, _root_.Mi.rd0f, _root_.Mi.rd0o, _root_.Mi.rdS, _root_.Mi.iteT, _root_.Mi.iteF, bS_ok, bS_er, bS_no, oNo, sSeq_ap, sSet_ap, sOwn_ap, sExp_ap, sRet_ap, sIf_ap, sNil_ap, eBin_ap, eCall_ap, aCons_ap, aNil_ap, eC_ap, tB_ap, isB_ap, tNot_ap, tAnd_ap, tOr_ap, tTru_ap, _root_.Mi.truB, _root_.Mi.truL, _root_.Mi.truT, _root_.Mi.truI, fn_ap, _root_.Mi.env2, oRt, oNx, oEr, sRaise_ap, _root_.Mi.R.ok_bind, _root_.Mi.R.er_bind, _root_.Mi.R.no_bind, _root_.Mi.R.calm_ok, _root_.Mi.R.calm_no, List.set_cons_zero, List.set_cons_succ, List.length_cons, List.length_nil, List.map_cons, List.map_nil, List.replicate_zero, List.replicate_succ, List.cons_append, List.nil_append, Nat.reduceAdd, Nat.reduceSub, Nat.reduceEqDiff, if_true, if_false, Bool.not_true, Bool.not_false, ite_true, ite_false, reduceIte, Nat.zero_add, eBl_ap, len_L, len_T, lt_I, le_I, gt_I, sFor_ap, iD_ap, itemsL, itemsT, itemsDi, sAug_ap, List.getElem?_cons_succ, List.getElem?_cons_zero, eLst_ap, eTup_ap, mkL_ap, mkT_ap, Nat.reduceLeDiff, frzA_ap, frzA, List.length_map, wipe_nil, wipe_cons, eFz_ap, isL_ap, _root_.Mi.w0, _root_.Mi.w1, add_I, sub_I, eqInt, neInt, within_ok, sAsg_ap, gTp_ap, gsCons_ap, gsNil_ap, gNm_ap, Option.bind_some, frz_ap, frzE, eAnd_ap, eOr_ap, isN_none, isN_list, eIf_ap, iR1_ap, itL0, itL1, itL2, itL3, itL4, itL5, itT0, itT1, itT2, itT3, itT4, itT5, eRep_ap, rep2, rep3, rep4, rep5, rep6, xNil_ap, xF_ap, xO_ap, sPar2_ap, eIsi_ap, many_str, never_str, m__law_in, b__law_in, isInt, isBl, inRg]
  | list _ => simp (config := { decide := false }) only [_root_.Mi.v0, _root_.Mi.vS, _root_.Mi.rd0f, _root_.Mi.rd0o, _root_.Mi.rdS, _root_.Mi.iteT, _root_.Mi.iteF, bS_ok, bS_er, bS_no, oNo, sSeq_ap, sSet_ap, sOwn_ap, sExp_ap, sRet_ap, sIf_ap, sNil_ap, eBin_ap, eCall_ap, aCons_ap, aNil_ap, eC_ap, tB_ap, isB_ap, tNot_ap, tAnd_ap, tOr_ap, tTru_ap, _root_.Mi.truB, _root_.Mi.truL, _root_.Mi.truT, _root_.Mi.truI, fn_ap, _root_.Mi.env2, oRt, oNx, oEr, sRaise_ap, _root_.Mi.R.ok_bind, _root_.Mi.R.er_bind, _root_.Mi.R.no_bind, _root_.Mi.R.calm_ok, _root_.Mi.R.calm_no, List.set_cons_zero, List.set_cons_succ, List.length_cons, List.length_nil, List.map_cons, List.map_nil, List.replicate_zero, List.replicate_succ, List.cons_append, List.nil_append, Nat.reduceAdd, Nat.reduceSub, Nat.reduceEqDiff, if_true, if_false, Bool.not_true, Bool.not_false, ite_true, ite_false, reduceIte, Nat.zero_add, eBl_ap, len_L, len_T, lt_I, le_I, gt_I, sFor_ap, iD_ap, itemsL, itemsT, itemsDi, sAug_ap, List.getElem?_cons_succ, List.getElem?_cons_zero, eLst_ap, eTup_ap, mkL_ap, mkT_ap, Nat.reduceLeDiff, frzA_ap, frzA, List.length_map, wipe_nil, wipe_cons, eFz_ap, isL_ap, _root_.Mi.w0, _root_.Mi.w1, add_I, sub_I, eqInt, neInt, within_ok, sAsg_ap, gTp_ap, gsCons_ap, gsNil_ap, gNm_ap, Option.bind_some, frz_ap, frzE, eAnd_ap, eOr_ap, isN_none, isN_list, eIf_ap, iR1_ap, itL0, itL1, itL2, itL3, itL4, itL5, itT0, itT1, itT2, itT3, itT4, itT5, eRep_ap, rep2, rep3, rep4, rep5, rep6, xNil_ap, xF_ap, xO_ap, sPar2_ap, eIsi_ap, many_str, never_str, m__law_in, b__law_in, isInt, isBl, inRg]
  | tuple _ => simp (config := { decide := false }) only [_root_.Mi.v0, _root_.Mi.vS, _root_.Mi.rd0f, _root_.Mi.rd0o, _root_.Mi.rdS, _root_.Mi.iteT, _root_.Mi.iteF, bS_ok, bS_er, bS_no, oNo, sSeq_ap, sSet_ap, sOwn_ap, sExp_ap, sRet_ap, sIf_ap, sNil_ap, eBin_ap, eCall_ap, aCons_ap, aNil_ap, eC_ap, tB_ap, isB_ap, tNot_ap, tAnd_ap, tOr_ap, tTru_ap, _root_.Mi.truB, _root_.Mi.truL, _root_.Mi.truT, _root_.Mi.truI, fn_ap, _root_.Mi.env2, oRt, oNx, oEr, sRaise_ap, _root_.Mi.R.ok_bind, _root_.Mi.R.er_bind, _root_.Mi.R.no_bind, _root_.Mi.R.calm_ok, _root_.Mi.R.calm_no, List.set_cons_zero, List.set_cons_succ, List.length_cons, List.length_nil, List.map_cons, List.map_nil, List.replicate_zero, List.replicate_succ, List.cons_append, List.nil_append, Nat.reduceAdd, Nat.reduceSub, Nat.reduceEqDiff, if_true, if_false, Bool.not_true, Bool.not_false, ite_true, ite_false, reduceIte, Nat.zero_add, eBl_ap, len_L, len_T, lt_I, le_I, gt_I, sFor_ap, iD_ap, itemsL, itemsT, itemsDi, sAug_ap, List.getElem?_cons_succ, List.getElem?_cons_zero, eLst_ap, eTup_ap, mkL_ap, mkT_ap, Nat.reduceLeDiff, frzA_ap, frzA, List.length_map, wipe_nil, wipe_cons, eFz_ap, isL_ap, _root_.Mi.w0, _root_.Mi.w1, add_I, sub_I, eqInt, neInt, within_ok, sAsg_ap, gTp_ap, gsCons_ap, gsNil_ap, gNm_ap, Option.bind_some, frz_ap, frzE, eAnd_ap, eOr_ap, isN_none, isN_list, eIf_ap, iR1_ap, itL0, itL1, itL2, itL3, itL4, itL5, itT0, itT1, itT2, itT3, itT4, itT5, eRep_ap, rep2, rep3, rep4, rep5, rep6, xNil_ap, xF_ap, xO_ap, sPar2_ap, eIsi_ap, many_str, never_str, m__law_in, b__law_in, isInt, isBl, inRg]
  | dict _ => simp (config := { decide := false }) only [_root_.Mi.v0, _root_.Mi.vS, _root_.Mi.rd0f, _root_.Mi.rd0o, _root_.Mi.rdS, _root_.Mi.iteT, _root_.Mi.iteF, bS_ok, bS_er, bS_no, oNo, sSeq_ap, sSet_ap, sOwn_ap, sExp_ap, sRet_ap, sIf_ap, sNil_ap, eBin_ap, eCall_ap, aCons_ap, aNil_ap, eC_ap, tB_ap, isB_ap, tNot_ap, tAnd_ap, tOr_ap, tTru_ap, _root_.Mi.truB, _root_.Mi.truL, _root_.Mi.truT, _root_.Mi.truI, fn_ap, _root_.Mi.env2, oRt, oNx, oEr, sRaise_ap, _root_.Mi.R.ok_bind, _root_.Mi.R.er_bind, _root_.Mi.R.no_bind, _root_.Mi.R.calm_ok, _root_.Mi.R.calm_no, List.set_cons_zero, List.set_cons_succ, List.length_cons, List.length_nil, List.map_cons, List.map_nil, List.replicate_zero, List.replicate_succ, List.cons_append, List.nil_append, Nat.reduceAdd, Nat.reduceSub, Nat.reduceEqDiff, if_true, if_false, Bool.not_true, Bool.not_false, ite_true, ite_false, reduceIte, Nat.zero_add, eBl_ap, len_L, len_T, lt_I, le_I, gt_I, sFor_ap, iD_ap, itemsL, itemsT, itemsDi, sAug_ap, List.getElem?_cons_succ, List.getElem?_cons_zero, eLst_ap, eTup_ap, mkL_ap, mkT_ap, Nat.reduceLeDiff, frzA_ap, frzA, List.length_map, wipe_nil, wipe_cons, eFz_ap, isL_ap, _root_.Mi.w0, _root_.Mi.w1, add_I, sub_I, eqInt, neInt, within_ok, sAsg_ap, gTp_ap, gsCons_ap, gsNil_ap, gNm_ap, Option.bind_some, frz_ap, frzE, eAnd_ap, eOr_ap, isN_none, isN_list, eIf_ap, iR1_ap, itL0, itL1, itL2, itL3, itL4, itL5, itT0, itT1, itT2, itT3, itT4, itT5, eRep_ap, rep2, rep3, rep4, rep5, rep6, xNil_ap, xF_ap, xO_ap, sPar2_ap, eIsi_ap, many_str, never_str, m__law_in, b__law_in, isInt, isBl, inRg]
end Mi

namespace Mi
open PySem PySem.Spec PyProof.Rows L2
def both (rows : List Mk) : List Mk := rows.flatMap fun r => [r ++ [false], r ++ [true]]
end Mi

namespace Mi
open PySem PySem.Spec PyProof.Rows L2
open PySem.StrLaws in
theorem occ_go (x : Str) (c limit : Nat) : ∀ (l : List Nat) (st : Array Nat × Nat), l.Pairwise (· < ·) → (∀ i ∈ l, st.2 ≤ i) → (forIn l st (occBody x ⟨#[c]⟩ x.length limit)).run.fst.toList = st.1.toList ++ (l.filter fun i => decide (x.cps.toList[i]? = some c)).take (limit - st.1.size)
  | [], st, _, _ => by simp
  | a :: l, st, hp, hf => by
    obtain ⟨h1, h2⟩ := List.pairwise_cons.mp hp
    rw [List.forIn_cons]
    unfold occBody
    have ha := hf a List.mem_cons_self
    by_cases hc : x.cps.toList[a]? = some c
    · have hs := (subAt_one x c a).mpr hc
      rw [List.filter_cons_of_pos (p := fun i => decide (x.cps.toList[i]? = some c)) (a := a) (by simpa using hc)]
      by_cases hl : st.1.size < limit
      · rw [if_pos ⟨⟨⟨hl, ha⟩, hs.1⟩, hs.2⟩]
        have ih := occ_go x c limit l (st.1.push a, a + (⟨#[c]⟩ : Str).length) h2 (fun i hi => by
          have := h1 i hi
          show a + 1 ≤ i
          omega)
        show (forIn l (st.1.push a, a + (⟨#[c]⟩ : Str).length) (occBody x ⟨#[c]⟩ x.length limit)).run.fst.toList = _
        rw [ih]
        rw [show limit - st.1.size = (limit - (st.1.size + 1)) + 1 by omega, List.take_succ_cons]
        simp
      · rw [if_neg fun z => hl z.1.1.1]
        have ih := occ_go x c limit l st h2 fun i hi => hf i (List.mem_cons_of_mem _ hi)
        show (forIn l st (occBody x ⟨#[c]⟩ x.length limit)).run.fst.toList = _
        rw [ih, show limit - st.1.size = 0 by omega, List.take_zero, List.take_zero]
    · have hs : ¬ (a + (⟨#[c]⟩ : Str).length ≤ x.length ∧ Builtin.Str.subAt x ⟨#[c]⟩ a = true) := fun z => hc ((subAt_one x c a).mp z)
      rw [if_neg fun z => hs ⟨z.1.2, z.2⟩, List.filter_cons_of_neg (p := fun i => decide (x.cps.toList[i]? = some c)) (a := a) (by simpa using hc)]
      exact occ_go x c limit l st h2 fun i hi => hf i (List.mem_cons_of_mem _ hi)
def plc (l : List Nat) (c : Nat) : List Nat := (List.range (l.length + 1)).filter fun i => decide (l[i]? = some c)
theorem occ_one (l : List Nat) (c limit : Nat) : Builtin.Str.occurrences ⟨l.toArray⟩ ⟨#[c]⟩ 0 (⟨l.toArray⟩ : Str).length limit = (plc l c).take limit := by
  rw [StrLaws.occ_eq, occ_go _ c limit _ _ List.pairwise_lt_range' fun i _ => Nat.zero_le _]
  unfold plc
  rw [txt_len, Nat.sub_zero, ← List.range_eq_range']
  simp
theorem plc_len (l : List Nat) (c : Nat) : (plc l c).length = l.count c := by
  unfold plc
  induction l with
  | nil => simp
  | cons a l ih =>
    rw [List.length_cons, List.range_succ_eq_map, List.filter_cons, List.count_cons]
    have e : ((List.range (l.length + 1)).map Nat.succ).filter (fun i => decide ((a :: l)[i]? = some c)) = ((List.range (l.length + 1)).filter fun i => decide (l[i]? = some c)).map Nat.succ := by
      rw [List.filter_map]
      rfl
    rw [e]
    by_cases h : a = c
    · subst h
      rw [if_pos (by simp), List.length_cons, List.length_map, ih]
      simp
    · rw [if_neg (by simpa using h), List.length_map, ih]
      simp [h]
theorem count_X (l : List Nat) (c : Nat) : s1D countS ⟨l.toArray⟩ [txt [c]] = .ok (.int (l.count c : Nat)) := by
  show R.ok (PyData.int (Txt.count ⟨l.toArray⟩ ⟨[c].toArray⟩)) = _
  have e : Txt.count ⟨l.toArray⟩ ⟨[c].toArray⟩ = ((l.count c : Nat) : Int) := by
    unfold Txt.count
    rw [show (⟨[c].toArray⟩ : Str) = ⟨#[c]⟩ from rfl, occ_one, List.length_take, plc_len, txt_len]
    have := List.count_le_length (a := c) (l := l)
    rw [Nat.min_eq_right (by omega)]
  rw [e]
theorem count_ch : ∀ s : Std, (s.map ch).count 111 = pegs s
  | [] => rfl
  | b :: s => by
    have ih := count_ch s
    unfold pegs at ih ⊢
    rw [List.map_cons, List.count_cons, List.count_cons, ih]
    cases b <;> rfl
theorem peg_cnt (s : Std) : s1D countS ⟨(s.map ch).toArray⟩ [.str (Str.ofString "o")] = .ok (.int (pegs s : Nat)) := by
  rw [c_o, count_X, count_ch]
theorem ms_pegs {f : Env → R Da} {s : Std} {r : Env} (h : f r = .ok (encS s)) : eMs (s1D countS) f (aCons (eC (.str (Str.ofString "o"))) aNil) r = .ok (.int (pegs s : Nat)) := by
  rw [eMs_ap, h]
  show R.bind (aCons (eC (.str (Str.ofString "o"))) aNil r) (fun ds => (s1D countS ⟨(s.map ch).toArray⟩ ds).calm) = _
  rw [aCons_ap, eC_ap, aNil_ap]
  show (s1D countS ⟨(s.map ch).toArray⟩ [.str (Str.ofString "o")]).calm = _
  rw [peg_cnt]
  rfl
end Mi

namespace Mi
open PySem PySem.Spec PyProof.Rows L2
def stepD (w : Wd) (s : Std) : Da → Option Std
  | .int i => if 0 ≤ i then (match w.js[i.toNat]? with
    | some j => if hasL s j true true false then some (putL s j false false true) else none
    | none => none) else none
  | _ => none
theorem stepD_mv {w : Wd} {s t : Std} {d : Da} (h : stepD w s d = some t) : ∃ k : Nat, d = encN k ∧ (k, t) ∈ movesL w s := by
  cases d with
  | int i =>
    unfold stepD at h
    dsimp only at h
    by_cases c : 0 ≤ i
    · rw [if_pos c] at h
      cases hj : w.js[i.toNat]? with
      | none => rw [hj] at h; cases h
      | some j =>
        rw [hj] at h
        dsimp only at h
        by_cases hh : hasL s j true true false = true
        · rw [if_pos hh] at h
          cases h
          refine ⟨i.toNat, ?_, steps_mem.mpr ⟨i.toNat, j, hj, by simp, hh, rfl⟩⟩
          unfold encN
          rw [Int.toNat_of_nonneg c]
        · rw [if_neg hh] at h
          cases h
    · rw [if_neg c] at h
      cases h
  | none => cases h
  | bool _ => cases h
  | str _ => cases h
  | list _ => cases h
  | tuple _ => cases h
  | dict _ => cases h
theorem mv_stepD {w : Wd} {s : Std} {m : Mv} (h : m ∈ movesL w s) : stepD w s (encN m.1) = some m.2 := by
  obtain ⟨i, j, e1, e2, e3, e4⟩ := steps_mem.mp h
  have e2 : m.1 = i := by omega
  show (if (0 : Int) ≤ (m.1 : Int) then _ else none) = _
  rw [if_pos (by omega), Int.toNat_natCast, e2, e1]
  show (if hasL s j true true false = true then some (putL s j false false true) else none) = _
  rw [if_pos e3, e4]
end Mi

namespace Mi
open PySem PySem.Spec PyProof.Rows L2
structure PTh (x : Da) : Prop where
  st : ∀ y, x = .str y → y.length ≤ 1000
  tp : ∀ ds, x = .tuple ds → ds.length ≤ 1000 ∧ (∀ e ∈ ds, ∀ y, e = .str y → y.length ≤ 1000) ∧ ∀ e ∈ ds, shD 7 e = true
end Mi

namespace Mi
open PySem PySem.Spec PyProof.Rows L2
def mvP (m : Mv) : Da × Da := (.int (m.1 : Int), encS m.2)
theorem hasD_M (i : Int) : ∀ ms : List Mv, hasD (ms.map mvP) (.int i) = ms.any fun m => decide ((m.1 : Int) = i)
  | [] => rfl
  | m :: ms => by
    rw [List.map_cons, List.any_cons, ← hasD_M i ms]
    rfl
theorem mrg_M : ∀ (ms acc : List Mv), (acc ++ ms).Pairwise (fun a b => a.1 < b.1) → mrgD (acc.map mvP) (ms.map mvP) = (acc ++ ms).map mvP
  | [], acc, _ => by rw [List.append_nil]; rfl
  | m :: ms, acc, h => by
    rw [List.map_cons]
    show mrgD (putD (acc.map mvP) (.int (m.1 : Int)) (encS m.2)) (ms.map mvP) = _
    have hn : hasD (acc.map mvP) (.int (m.1 : Int)) = false := by
      rw [hasD_M]
      cases hc : acc.any fun q => decide ((q.1 : Int) = (m.1 : Int)) with
      | false => rfl
      | true =>
        obtain ⟨q, hq, he⟩ := List.any_eq_true.mp hc
        have := (List.pairwise_append.mp h).2.2 q hq m List.mem_cons_self
        have := of_decide_eq_true he
        omega
    have e : putD (acc.map mvP) (.int (m.1 : Int)) (encS m.2) = (acc ++ [m]).map mvP := by
      unfold putD
      rw [hn, if_neg Bool.false_ne_true, List.map_append]
      rfl
    rw [e, mrg_M ms (acc ++ [m]) (by rw [List.append_assoc]; exact h), List.append_assoc]
    rfl
theorem steps_inc (s : Std) (x y z x' y' z' : Bool) : ∀ (js : List Jm) (k : Nat), (stepsL s x y z x' y' z' k js).Pairwise (fun a b => a.1 < b.1) ∧ ∀ m ∈ stepsL s x y z x' y' z' k js, k ≤ m.1
  | [], k => ⟨List.Pairwise.nil, fun _ h => by cases h⟩
  | j :: js, k => by
    obtain ⟨a, b⟩ := steps_inc s x y z x' y' z' js (k + 1)
    have e : stepsL s x y z x' y' z' k (j :: js) = if hasL s j x y z = true then (k, putL s j x' y' z') :: stepsL s x y z x' y' z' (k + 1) js else stepsL s x y z x' y' z' (k + 1) js := rfl
    rw [e]
    split
    · refine ⟨List.pairwise_cons.mpr ⟨fun m hm => ?_, a⟩, fun m hm => ?_⟩
      · have := b m hm
        show k < m.1
        omega
      · rcases List.mem_cons.mp hm with rfl | hm
        · exact Nat.le_refl _
        · have := b m hm
          omega
    · exact ⟨a, fun m hm => by have := b m hm; omega⟩
theorem prD_M : ∀ ms : List Mv, prD (ms.map encM) = some (ms.map mvP)
  | [] => rfl
  | m :: ms => by
    rw [List.map_cons]
    unfold prD
    rw [prD_M ms]
    rfl
theorem dict_M (w : Wd) (s : Std) : d1 dictD [.list ((movesL w s).map encM)] = .ok (.dict ((movesL w s).map mvP)) := by
  show (match prD ((movesL w s).map encM) with | some ps => R.ok (PyData.dict (mrgD [] ps)) | none => .no) = _
  rw [prD_M]
  show R.ok (PyData.dict (mrgD (([] : List Mv).map mvP) ((movesL w s).map mvP))) = _
  rw [mrg_M _ _ (steps_inc s _ _ _ _ _ _ w.js 0).1]
  rfl
theorem valD_M (i : Int) : ∀ ms : List Mv, valD (ms.map mvP) (.int i) = (ms.find? fun m => decide ((m.1 : Int) = i)).map fun m => encS m.2
  | [] => rfl
  | m :: ms => by
    rw [List.map_cons, List.find?_cons]
    show (if decide ((m.1 : Int) = i) = true then some (encS m.2) else valD (ms.map mvP) (.int i)) = _
    rw [valD_M i ms]
    cases decide ((m.1 : Int) = i) <;> rfl
theorem notIn_M (i : Int) (ms : List Mv) : dNotIn' (.int i) (.dict (ms.map mvP)) = .ok (.bool (!ms.any fun m => decide ((m.1 : Int) = i))) := by
  show (inDD (.int i) (ms.map mvP)).bind _ = _
  unfold inDD
  rw [if_pos (show isKy (.int i) = true from rfl), hasD_M]
  rfl
theorem item_M {i : Int} {ms : List Mv} {m : Mv} (h : ms.find? (fun m => decide ((m.1 : Int) = i)) = some m) : dItem' (.dict (ms.map mvP)) (.int i) = .ok (encS m.2) := by
  show itD (ms.map mvP) (.int i) = _
  unfold itD
  rw [if_pos (show isKy (.int i) = true from rfl), valD_M, h]
  rfl
theorem stepD_find {w : Wd} (h : WOk w) (s : Std) (i : Int) : stepD w s (.int i) = ((movesL w s).find? fun m => decide ((m.1 : Int) = i)).map (·.2) := by
  cases hf : (movesL w s).find? fun m => decide ((m.1 : Int) = i) with
  | some m =>
    have hm := List.mem_of_find?_eq_some hf
    have he := List.find?_some hf
    have he : (m.1 : Int) = i := by simpa using he
    have := mv_stepD hm
    unfold encN at this
    rw [he] at this
    exact this
  | none =>
    cases hst : stepD w s (.int i) with
    | none => rfl
    | some t =>
      obtain ⟨k, ek, hm⟩ := stepD_mv hst
      have ek : i = (k : Int) := by unfold encN at ek; injection ek
      have := List.find?_eq_none.mp hf (k, t) hm
      simp [ek] at this
theorem find_any {ms : List Mv} {i : Int} : (ms.any fun m => decide ((m.1 : Int) = i)) = (ms.find? fun m => decide ((m.1 : Int) = i)).isSome := by
  induction ms with
  | nil => rfl
  | cons m ms ih =>
    rw [List.any_cons, List.find?_cons, ih]
    cases decide ((m.1 : Int) = i) <;> rfl
structure PTk (x : Da) : Prop where
  p : PTh x
  s : shD 6 x = true
  e : ∀ ds, x = .tuple ds → ∀ d ∈ ds, shD 6 d = true
end Mi

namespace Mi
open PySem PySem.Spec PyProof.Rows L2
theorem nodup_len {α : Type} [DecidableEq α] : ∀ {l m : List α}, l.Nodup → (∀ x ∈ l, x ∈ m) → l.length ≤ m.length
  | [], m, _, _ => Nat.zero_le _
  | x :: l, m, hn, hs => by
    obtain ⟨h1, h2⟩ := List.nodup_cons.mp hn
    have hx := hs x List.mem_cons_self
    have := nodup_len (l := l) (m := m.erase x) h2 fun y hy => by
      have hne : y ≠ x := fun e => h1 (e ▸ hy)
      exact (List.mem_erase_of_ne hne).mpr (hs y (List.mem_cons_of_mem _ hy))
    rw [List.length_erase_of_mem hx] at this
    have hp : 0 < m.length := List.length_pos_of_mem hx
    rw [List.length_cons]
    omega
end Mi

namespace Mi
open PySem PySem.Spec PyProof.Rows L2
end Mi

namespace Mi
open PySem PySem.Spec PyProof.Rows L2
end Mi

namespace Mi
open PySem PySem.Spec PyProof.Rows L2
section
variable {W S G C : Da} {c : String} (h : m_look_two [W, S, G] = .er c)
include h
end
section
variable {w : Wd} {s g : Std} (h : WOk w) (hs : s.length = w.n) (hg : g.length = w.n) {c : String} (e : m_between [encW w, encS s, encS g] = .er c)
include h hs hg e
end
end Mi

namespace Mi
open PySem PySem.Spec PyProof.Rows L2
abbrev onW (l l2 : List Std) : List Std := l.filter fun t => decide (t ∈ l2)
end Mi

namespace Mi
open PySem PySem.Spec PyProof.Rows L2
theorem addL {xs ys : List Da} (h : xs.length + ys.length ≤ 100000) : dAdd (.list xs) (.list ys) = .ok (.list (xs ++ ys)) := if_pos h
theorem mv_iff {w : Wd} {s : Std} {m : Mv} : m ∈ movesL w s ↔ ∃ j, w.js[m.1]? = some j ∧ hasL s j true true false = true ∧ m.2 = putL s j false false true := by
  rw [steps_mem]
  constructor
  · rintro ⟨i, j, e1, e2, e3, e4⟩
    rw [Nat.zero_add] at e2
    exact ⟨j, by rw [e2]; exact e1, e3, e4⟩
  · rintro ⟨j, e1, e3, e4⟩
    exact ⟨m.1, j, e1, by omega, e3, e4⟩
theorem mv_fun {w : Wd} {s : Std} {m m' : Mv} (h : m ∈ movesL w s) (h' : m' ∈ movesL w s) (e : m.1 = m'.1) : m = m' := by
  obtain ⟨j, e1, e2, e3⟩ := mv_iff.mp h
  obtain ⟨j', e1', e2', e3'⟩ := mv_iff.mp h'
  rw [← e, e1] at e1'
  cases e1'
  exact Prod.ext e (by rw [e3, e3'])
theorem come_row {w : Wd} {s g : Std} : Come w s g ↔ ∃ r, RowTo w s r g := by
  constructor
  · intro h
    induction h with
    | refl s => exact ⟨[], .nil s⟩
    | step m hm _ ih =>
      obtain ⟨r, h1⟩ := ih
      exact ⟨_, .cons m hm h1⟩
  · rintro ⟨r, h⟩
    exact h.come
theorem RowTo.app {w : Wd} {s t u : Std} {r r' : List Nat} (h : RowTo w s r t) (h2 : RowTo w t r' u) : RowTo w s (r ++ r') u := by
  induction h with
  | nil => exact h2
  | cons m hm _ ih => exact .cons m hm (ih h2)
theorem RowTo.split {w : Wd} {u : Std} : ∀ {r r' : List Nat} {s : Std}, RowTo w s (r ++ r') u → ∃ t, RowTo w s r t ∧ RowTo w t r' u
  | [], _, s, h => ⟨s, .nil s, h⟩
  | k :: r, r', s, h => by
    cases h with
    | cons m hm h =>
      obtain ⟨t, h1, h2⟩ := RowTo.split h
      exact ⟨t, .cons m hm h1, h2⟩
theorem RowTo.fun {w : Wd} {t t' : Std} : ∀ {r : List Nat} {s : Std}, RowTo w s r t → RowTo w s r t' → t = t'
  | [], s, h, h' => by
    cases h
    cases h'
    rfl
  | k :: r, s, h, h' => by
    generalize hk : k :: r = rr at h h'
    cases h with
    | nil => cases hk
    | cons m hm h =>
      generalize hk2 : m.1 :: _ = rr at h'
      cases h' with
      | nil => cases hk2
      | cons m' hm' h' =>
        cases hk
        injection hk2 with q1 q2
        subst q2
        have := mv_fun hm hm' q1
        subst this
        exact RowTo.fun h h'
end Mi

namespace Mi
open PySem PySem.Spec PyProof.Rows L2
def insN (x : Nat) : List Nat → List Nat
  | [] => [x]
  | y :: l => if x ≤ y then x :: y :: l else y :: insN x l
def sortN : List Nat → List Nat
  | [] => []
  | x :: l => insN x (sortN l)
theorem insN_perm (x : Nat) : ∀ l : List Nat, (insN x l).Perm (x :: l)
  | [] => .refl _
  | y :: l => by
    unfold insN
    split
    · exact .refl _
    · exact ((insN_perm x l).cons y).trans (.swap x y l)
theorem sortN_perm : ∀ l : List Nat, (sortN l).Perm l
  | [] => .refl _
  | x :: l => (insN_perm x (sortN l)).trans ((sortN_perm l).cons x)
theorem insN_srt (x : Nat) : ∀ l : List Nat, l.Pairwise (· ≤ ·) → (insN x l).Pairwise (· ≤ ·)
  | [], _ => by simp [insN]
  | y :: l, h => by
    obtain ⟨h1, h2⟩ := List.pairwise_cons.mp h
    unfold insN
    by_cases c : x ≤ y
    · rw [if_pos c]
      refine List.pairwise_cons.mpr ⟨fun z hz => ?_, h⟩
      rcases List.mem_cons.mp hz with rfl | hz
      · exact c
      · exact Nat.le_trans c (h1 z hz)
    · rw [if_neg c]
      refine List.pairwise_cons.mpr ⟨fun z hz => ?_, insN_srt x l h2⟩
      rcases List.mem_cons.mp ((insN_perm x l).mem_iff.mp hz) with rfl | hz
      · omega
      · exact h1 z hz
theorem sortN_srt : ∀ l : List Nat, (sortN l).Pairwise (· ≤ ·)
  | [] => .nil
  | x :: l => insN_srt x _ (sortN_srt l)
theorem srtN_uniq : ∀ {l m : List Nat}, l.Pairwise (· ≤ ·) → m.Pairwise (· ≤ ·) → l.Perm m → l = m
  | [], m, _, _, p => by rw [List.nil_perm.mp p]
  | a :: l, [], _, _, p => by cases List.perm_nil.mp p
  | a :: l, b :: m, h1, h2, p => by
    obtain ⟨a1, a2⟩ := List.pairwise_cons.mp h1
    obtain ⟨b1, b2⟩ := List.pairwise_cons.mp h2
    have e : a = b := by
      have x1 : a ∈ b :: m := p.mem_iff.mp List.mem_cons_self
      have x2 : b ∈ a :: l := p.mem_iff.mpr List.mem_cons_self
      have y1 : b ≤ a := by
        rcases List.mem_cons.mp x1 with h | h
        · omega
        · exact b1 a h
      have y2 : a ≤ b := by
        rcases List.mem_cons.mp x2 with h | h
        · omega
        · exact a1 b h
      omega
    subst e
    rw [srtN_uniq a2 b2 ((List.perm_cons a).mp p)]
def np (k : Nat) : Da × Da := (encN k, .bool true)
theorem on_iff {w : Wd} (h : WOk w) {s g : Std} (hs : s.length = w.n) (hg : g.length = w.n) {l l2 : List Std} (e1 : allFrom w s = some l) (e2 : allTo w g = some l2) {t : Std} : t ∈ onW l l2 ↔ Come w s t ∧ Come w t g := by
  rw [List.mem_filter, decide_eq_true_iff, from_iff e1, to_iff h hg e2]
  constructor
  · rintro ⟨a, b, _⟩; exact ⟨a, b⟩
  · rintro ⟨a, b⟩; exact ⟨a, b, a.len h hs⟩
theorem steps_srt (s : Std) (x y z x' y' z' : Bool) : ∀ (js : List Jm) (k : Nat), (stepsL s x y z x' y' z' k js).Pairwise (fun a b => a.1 < b.1) ∧ ∀ m ∈ stepsL s x y z x' y' z' k js, k ≤ m.1
  | [], k => ⟨.nil, fun m hm => by cases hm⟩
  | j :: js, k => by
    obtain ⟨h1, h2⟩ := steps_srt s x y z x' y' z' js (k + 1)
    unfold stepsL
    by_cases c : hasL s j x y z = true
    · rw [if_pos c]
      refine ⟨List.pairwise_cons.mpr ⟨fun m hm => by have := h2 m hm; show k < m.1; omega, h1⟩, fun m hm => ?_⟩
      rcases List.mem_cons.mp hm with rfl | hm
      · exact Nat.le_refl _
      · have := h2 m hm; omega
    · rw [if_neg c]
      exact ⟨h1, fun m hm => by have := h2 m hm; omega⟩
theorem back_srt (w : Wd) (s : Std) : (backL w s).Pairwise fun a b => a.1 < b.1 := (steps_srt s _ _ _ _ _ _ w.js 0).1
end Mi

namespace Mi
open PySem PySem.Spec PyProof.Rows L2
def lastL (w : Wd) (on : List Std) (g : Std) : List Nat := ((backL w g).filter fun m => decide (m.2 ∈ on)).map (·.1)
section
variable {w : Wd} (h : WOk w) {s g : Std} (hs : s.length = w.n) (hg : g.length = w.n)
include h hs hg
end
theorem last_iff {w : Wd} (h : WOk w) {s g : Std} (hs : s.length = w.n) (hg : g.length = w.n) {l l2 : List Std} (e1 : allFrom w s = some l) (e2 : allTo w g = some l2) {k : Nat} : k ∈ lastL w (onW l l2) g ↔ ∃ r, RowTo w s (r ++ [k]) g := by
  unfold lastL
  rw [List.mem_map]
  constructor
  · rintro ⟨m, hm, rfl⟩
    obtain ⟨h1, h2⟩ := List.mem_filter.mp hm
    have h2 := (on_iff h hs hg e1 e2).mp (of_decide_eq_true h2)
    obtain ⟨r, hr⟩ := come_row.mp h2.1
    exact ⟨r, hr.app (.cons (m.1, g) (back_moves h hg h1).1 (.nil g))⟩
  · rintro ⟨r, hr⟩
    obtain ⟨t, h1, h2⟩ := hr.split
    cases h2 with
    | cons m hm h3 =>
      cases h3
      have htl := h1.come.len h hs
      have q := (moves_back h htl hm).1
      exact ⟨(m.1, t), List.mem_filter.mpr ⟨q, decide_eq_true ((on_iff h hs hg e1 e2).mpr ⟨h1.come, .step m hm (.refl _)⟩)⟩, rfl⟩
end Mi

namespace Mi
open PySem PySem.Spec PyProof.Rows L2
theorem rel_len {α β : Type} [DecidableEq β] {R : α → β → Prop} {A : List α} {B : List β} (hA : A.Nodup) (h : ∀ a ∈ A, ∃ b, b ∈ B ∧ R a b) (inj : ∀ a ∈ A, ∀ a' ∈ A, ∀ b, R a b → R a' b → a = a') : A.length ≤ B.length := by
  induction A generalizing B with
  | nil => exact Nat.zero_le _
  | cons a A ih =>
    obtain ⟨h1, h2⟩ := List.nodup_cons.mp hA
    obtain ⟨b, hb, hr⟩ := h a List.mem_cons_self
    have : A.length ≤ (B.erase b).length := ih h2 (fun x hx => by
      obtain ⟨y, hy, hxy⟩ := h x (List.mem_cons_of_mem _ hx)
      refine ⟨y, ?_, hxy⟩
      have ne : y ≠ b := fun e => by
        subst e
        have := inj x (List.mem_cons_of_mem _ hx) a List.mem_cons_self y hxy hr
        exact h1 (this ▸ hx)
      exact (List.mem_erase_of_ne ne).mpr hy) fun x hx y hy => inj x (List.mem_cons_of_mem _ hx) y (List.mem_cons_of_mem _ hy)
    rw [List.length_erase_of_mem hb] at this
    have hp := List.length_pos_of_mem hb
    rw [List.length_cons]
    omega
structure Iso (w w' : Wd) (φ : Std → Std) (R : Nat → Nat → Prop) : Prop where
  n : w'.n = w.n
  len : ∀ s, s.length = w.n → (φ s).length = w.n
  inj : ∀ s t, s.length = w.n → t.length = w.n → φ s = φ t → s = t
  sur : ∀ u : Std, u.length = w.n → ∃ s : Std, s.length = w.n ∧ φ s = u
  mv : ∀ s, s.length = w.n → ∀ m ∈ movesL w s, ∃ m' ∈ movesL w' (φ s), R m.1 m'.1 ∧ m'.2 = φ m.2
  vm : ∀ s, s.length = w.n → ∀ m' ∈ movesL w' (φ s), ∃ m ∈ movesL w s, R m.1 m'.1 ∧ m'.2 = φ m.2
  r1 : ∀ a b b', R a b → R a b' → b = b'
  r2 : ∀ a a' b, R a b → R a' b → a = a'
  tot : ∀ a, a < w.js.length → ∃ b, b < w'.js.length ∧ R a b
  tot' : ∀ b, b < w'.js.length → ∃ a, a < w.js.length ∧ R a b
inductive RR (R : Nat → Nat → Prop) : List Nat → List Nat → Prop
  | nil : RR R [] []
  | cons {a b : Nat} {r q : List Nat} : R a b → RR R r q → RR R (a :: r) (b :: q)
theorem RR.mem {R : Nat → Nat → Prop} {r q : List Nat} (h : RR R r q) (r1 : ∀ a b b', R a b → R a b' → b = b') (r2 : ∀ a a' b, R a b → R a' b → a = a') {a b : Nat} (hab : R a b) : a ∈ r ↔ b ∈ q := by
  induction h with
  | nil => simp
  | cons h1 _ ih =>
    rw [List.mem_cons, List.mem_cons, ih]
    constructor
    · rintro (e | e)
      · subst e; exact .inl (r1 _ _ _ hab h1)
      · exact .inr e
    · rintro (e | e)
      · subst e; exact .inl (r2 _ _ _ hab h1)
      · exact .inr e
theorem RR.inj {R : Nat → Nat → Prop} (r2 : ∀ a a' b, R a b → R a' b → a = a') : ∀ {r r' q : List Nat}, RR R r q → RR R r' q → r = r'
  | _, _, _, .nil, .nil => rfl
  | _, _, _, .cons h1 t1, .cons h2 t2 => by rw [r2 _ _ _ h1 h2, RR.inj r2 t1 t2]
theorem RR.snoc {R : Nat → Nat → Prop} : ∀ {r q : List Nat} {a : Nat}, RR R (r ++ [a]) q → ∃ q' b, q = q' ++ [b] ∧ R a b
  | [], _, a, h => by
    cases h with
    | cons h1 t =>
      cases t
      exact ⟨[], _, rfl, h1⟩
  | x :: r, _, a, h => by
    cases h with
    | cons h1 t =>
      obtain ⟨q', b, e, hb⟩ := RR.snoc t
      exact ⟨_ :: q', b, by rw [e]; rfl, hb⟩
theorem RR.snoc' {R : Nat → Nat → Prop} : ∀ {q r : List Nat} {b : Nat}, RR R r (q ++ [b]) → ∃ r' a, r = r' ++ [a] ∧ R a b
  | [], _, a, h => by
    cases h with
    | cons h1 t =>
      cases t
      exact ⟨[], _, rfl, h1⟩
  | x :: r, _, a, h => by
    cases h with
    | cons h1 t =>
      obtain ⟨q', b, e, hb⟩ := RR.snoc' t
      exact ⟨_ :: q', b, by rw [e]; rfl, hb⟩
section
variable {w w' : Wd} {φ : Std → Std} {R : Nat → Nat → Prop} (I : Iso w w' φ R) (h : WOk w) (h' : WOk w')
include I h
theorem Iso.row {s g : Std} {r : List Nat} (q : RowTo w s r g) (hs : s.length = w.n) : ∃ r', RR R r r' ∧ RowTo w' (φ s) r' (φ g) := by
  induction q with
  | nil s => exact ⟨[], .nil, .nil _⟩
  | cons m hm _ ih =>
    obtain ⟨r', h1, h2⟩ := ih ((moves_nx h _ hs).2.2 m hm)
    obtain ⟨m', hm', hr, e⟩ := I.mv _ hs m hm
    rw [← e] at h2
    exact ⟨m'.1 :: r', .cons hr h1, .cons m' hm' h2⟩
theorem Iso.row' : ∀ {r' : List Nat} {s u : Std}, s.length = w.n → RowTo w' (φ s) r' u → ∃ r g, RR R r r' ∧ RowTo w s r g ∧ u = φ g
  | [], s, u, hs, q => by
    cases q
    exact ⟨[], s, .nil, .nil s, rfl⟩
  | k :: r', s, u, hs, q => by
    generalize e : φ s = v at q
    cases q with
    | cons m' hm' q =>
      subst e
      obtain ⟨m, hm, hr, em⟩ := I.vm s hs m' hm'
      rw [em] at q
      obtain ⟨r, g, h1, h2, h3⟩ := Iso.row' ((moves_nx h s hs).2.2 m hm) q
      exact ⟨m.1 :: r, g, .cons hr h1, .cons m hm h2, h3⟩
theorem Iso.come {s g : Std} (hs : s.length = w.n) (c : Come w s g) : Come w' (φ s) (φ g) := by
  obtain ⟨r, hr⟩ := come_row.mp c
  obtain ⟨r', _, h2⟩ := I.row h hr hs
  exact h2.come
include h'
theorem Iso.rows {s g : Std} (hs : s.length = w.n) (hg : g.length = w.n) {q : List Nat} (hq : RowTo w' (φ s) q (φ g)) : ∃ r, RR R r q ∧ RowTo w s r g := by
  obtain ⟨r, t, h1, h2, h3⟩ := I.row' h hs hq
  rw [← I.inj g t hg (h2.come.len h hs) h3] at h2
  exact ⟨r, h1, h2⟩
theorem lastL_nodup (w : Wd) (on : List Std) (g : Std) : (lastL w on g).Nodup := by
  unfold lastL List.Nodup
  rw [List.pairwise_map]
  exact ((back_srt w g).filter _).imp fun {a b} hab e => by omega
theorem Iso.last {s g : Std} (hs : s.length = w.n) (hg : g.length = w.n) {l l2 l' l2' : List Std} (e : allFrom w s = some l) (e2 : allTo w g = some l2) (e' : allFrom w' (φ s) = some l') (e2' : allTo w' (φ g) = some l2') : (lastL w' (onW l' l2') (φ g)).length = (lastL w (onW l l2) g).length := by
  have hs' : (φ s).length = w'.n := by rw [I.n]; exact I.len s hs
  have hg' : (φ g).length = w'.n := by rw [I.n]; exact I.len g hg
  refine Nat.le_antisymm ?_ ?_
  · refine rel_len (R := fun b a => R a b) (lastL_nodup I h h' _ _ _) (fun b hb => ?_) fun b _ b' _ a x y => I.r1 a b b' x y
    obtain ⟨q, hq⟩ := (last_iff h' hs' hg' e' e2').mp hb
    obtain ⟨r, hrq, hr⟩ := I.rows h h' hs hg hq
    obtain ⟨r', a, er, hab⟩ := hrq.snoc'
    subst er
    exact ⟨a, (last_iff h hs hg e e2).mpr ⟨r', hr⟩, hab⟩
  · refine rel_len (R := fun a b => R a b) (lastL_nodup I h h' _ _ _) (fun a ha => ?_) fun a _ a' _ b x y => I.r2 a a' b x y
    obtain ⟨r, hr⟩ := (last_iff h hs hg e e2).mp ha
    obtain ⟨q, hrq, hq⟩ := I.row h hr hs
    obtain ⟨q', b, eq, hab⟩ := hrq.snoc
    subst eq
    exact ⟨b, (last_iff h' hs' hg' e' e2').mpr ⟨q', hq⟩, hab⟩
end
end Mi

namespace Mi
open PySem PySem.Spec PyProof.Rows L2
structure Ord (n : Nat) (o : List Nat) : Prop where
  perm : o.Perm (List.range n)
theorem Ord.len {n : Nat} {o : List Nat} (h : Ord n o) : o.length = n := by rw [h.perm.length_eq, List.length_range]
theorem Ord.nodup {n : Nat} {o : List Nat} (h : Ord n o) : o.Nodup := h.perm.nodup_iff.mpr List.nodup_range
theorem Ord.mem {n : Nat} {o : List Nat} (h : Ord n o) {c : Nat} : c ∈ o ↔ c < n := by rw [h.perm.mem_iff, List.mem_range]
def ix (o : List Nat) (c : Nat) : Nat := o.idxOf c
theorem Ord.get {n : Nat} {o : List Nat} (h : Ord n o) {c : Nat} (hc : c < n) : o[ix o c]? = some c := by
  have hl := List.idxOf_lt_length_of_mem (h.mem.mpr hc)
  unfold ix
  rw [List.getElem?_eq_getElem hl, List.getElem_idxOf]
theorem Ord.ix_get {n : Nat} {o : List Nat} (h : Ord n o) {i c : Nat} (e : o[i]? = some c) : ix o c = i := by
  obtain ⟨hi, ei⟩ := List.getElem?_eq_some_iff.mp e
  have hc : c < n := h.mem.mp (ei ▸ List.getElem_mem hi)
  have q := h.get hc
  obtain ⟨hj, ej⟩ := List.getElem?_eq_some_iff.mp q
  have nd := List.pairwise_iff_getElem.mp h.nodup
  rcases Nat.lt_trichotomy (ix o c) i with z | z | z
  · exact absurd (ej.trans ei.symm) (nd _ _ hj hi z)
  · exact z
  · exact absurd (ei.trans ej.symm) (nd _ _ hi hj z)
def nm (o : List Nat) (s : Std) : Std := o.map fun c => s.getD c false
theorem Ord.at {n : Nat} {o : List Nat} (h : Ord n o) {i : Nat} (hi : i < n) : ∃ c, c < n ∧ o[i]? = some c ∧ ix o c = i := by
  have hl : i < o.length := by rw [h.len]; exact hi
  have e : o[i]? = some o[i] := List.getElem?_eq_getElem hl
  exact ⟨o[i], h.mem.mp (List.getElem_mem hl), e, h.ix_get e⟩
end Mi

namespace Mi
open PySem PySem.Spec PyProof.Rows L2
def jn : List (List Nat) → List Nat
  | [] => []
  | [w] => w
  | w :: v :: ws => w ++ 32 :: jn (v :: ws)
end Mi

namespace Mi
open PySem PySem.Spec PyProof.Rows L2
end Mi

namespace Mi
open PySem PySem.Spec PyProof.Rows L2
def ru (w : Wd) : Std → List Nat → Std
  | s, [] => s
  | s, k :: r => ru w (putL s (w.js.getD k (0, 0, 0)) false false true) r
theorem ru_step {w : Wd} {s : Std} {m : Mv} (hm : m ∈ movesL w s) (r : List Nat) : ru w s (m.1 :: r) = ru w m.2 r := by
  obtain ⟨j, e, _, e2⟩ := mv_iff.mp hm
  show ru w (putL s (w.js.getD m.1 (0, 0, 0)) false false true) r = _
  rw [List.getD_eq_getElem?_getD, e, e2]
  rfl
theorem RowTo.take {w : Wd} {s t : Std} {r : List Nat} (q : RowTo w s r t) : ∀ m, RowTo w s (r.take m) (ru w s (r.take m)) := by
  induction q with
  | nil s => exact fun m => by rw [List.take_nil]; exact .nil s
  | cons m hm q ih =>
    intro k
    cases k with
    | zero => exact .nil _
    | succ k =>
      have := ih k
      rw [List.take_succ_cons]
      rw [ru_step hm]
      exact .cons m hm this
theorem RowTo.drop {w : Wd} {s t : Std} {r : List Nat} (q : RowTo w s r t) : ∀ m, RowTo w (ru w s (r.take m)) (r.drop m) t := by
  induction q with
  | nil s => exact fun m => by rw [List.take_nil, List.drop_nil]; exact .nil s
  | cons m hm q ih =>
    intro k
    cases k with
    | zero => exact .cons m hm q
    | succ k =>
      have := ih k
      rw [List.take_succ_cons, List.drop_succ_cons]
      rw [ru_step hm]
      exact this
def sts (w : Wd) (s : Std) (r : List Nat) : List Std := (List.range (r.length + 1)).map fun m => ru w s (r.take m)
theorem iR1_K {f : Env → R Da} {r : Env} {k : Nat} (h : f r = .ok (.int (k : Int))) (hk : k ≤ 1000) : iR1 f r = .ok ((List.range k).map encN) := by
  rw [iR1_ap, h, R.ok_bind]
  dsimp only
  rw [rg0 (by omega)]
  rfl
end Mi

namespace Mi
open PySem PySem.Spec PyProof.Rows L2
end Mi

namespace Mi
open PySem PySem.Spec PyProof.Rows L2
def kl (x : List Nat) : List Int := x.map fun (c : Nat) => (c : Int)
theorem kl_inj {a b : List Nat} (h : kl a = kl b) : a = b := (List.map_inj_right (fun x y e => by
  have e : (x : Int) = (y : Int) := e
  omega)).mp h
def leT (a b : List Nat) : Bool := !lexLtI (kl b) (kl a)
def insT (x : List Nat) : List (List Nat) → List (List Nat)
  | [] => [x]
  | y :: ys => if leT x y = true then x :: y :: ys else y :: insT x ys
def sortT : List (List Nat) → List (List Nat)
  | [] => []
  | x :: xs => insT x (sortT xs)
theorem insT_perm (x : List Nat) : ∀ l : List (List Nat), (insT x l).Perm (x :: l)
  | [] => List.Perm.refl _
  | y :: l => by
    unfold insT
    split
    · exact List.Perm.refl _
    · exact ((insT_perm x l).cons y).trans (List.Perm.swap x y l)
theorem sortT_perm : ∀ l : List (List Nat), (sortT l).Perm l
  | [] => List.Perm.refl _
  | x :: l => (insT_perm x _).trans ((sortT_perm l).cons x)
theorem leT_tot (a b : List Nat) : leT a b = true ∨ leT b a = true := by
  unfold leT
  cases h : lexLtI (kl b) (kl a) with
  | false => exact .inl rfl
  | true =>
    refine .inr ?_
    cases h2 : lexLtI (kl a) (kl b) with
    | false => rfl
    | true =>
      have := lexI_trans h h2
      rw [lexI_irr] at this
      cases this
theorem leT_anti {a b : List Nat} (h1 : leT a b = true) (h2 : leT b a = true) : a = b := by
  unfold leT at *
  have h1 : lexLtI (kl b) (kl a) = false := by simpa using h1
  have h2 : lexLtI (kl a) (kl b) = false := by simpa using h2
  by_cases e : kl a = kl b
  · exact kl_inj e
  · have := lexI_tri (kl a) (kl b) e h2
    rw [h1] at this
    cases this
theorem leT_tr (a b c : List Nat) (h1 : leT a b = true) (h2 : leT b c = true) : leT a c = true := by
  unfold leT at *
  have h1 : lexLtI (kl b) (kl a) = false := by simpa using h1
  have h2 : lexLtI (kl c) (kl b) = false := by simpa using h2
  cases h : lexLtI (kl c) (kl a) with
  | false => rfl
  | true =>
    exfalso
    by_cases e : kl a = kl b
    · rw [e] at h
      rw [h2] at h
      cases h
    · have h3 : lexLtI (kl a) (kl b) = true := by
        cases h4 : lexLtI (kl a) (kl b) with
        | true => rfl
        | false =>
          have := lexI_tri (kl a) (kl b) e h4
          rw [h1] at this
          cases this
      have := lexI_trans h h3
      rw [h2] at this
      cases this
theorem insT_srt (x : List Nat) : ∀ l : List (List Nat), l.Pairwise (fun a b => leT a b = true) → (insT x l).Pairwise (fun a b => leT a b = true)
  | [], _ => List.pairwise_singleton _ _
  | y :: l, h => by
    obtain ⟨h1, h2⟩ := List.pairwise_cons.mp h
    unfold insT
    by_cases c : leT x y = true
    · rw [if_pos c]
      refine List.pairwise_cons.mpr ⟨fun z hz => ?_, h⟩
      rcases List.mem_cons.mp hz with rfl | hz
      · exact c
      · exact leT_tr x y z c (h1 z hz)
    · rw [if_neg c]
      refine List.pairwise_cons.mpr ⟨fun z hz => ?_, insT_srt x l h2⟩
      rcases List.mem_cons.mp ((insT_perm x l).mem_iff.mp hz) with rfl | hz
      · exact (leT_tot z y).resolve_left c
      · exact h1 z hz
theorem sortT_srt : ∀ l : List (List Nat), (sortT l).Pairwise (fun a b => leT a b = true)
  | [] => List.Pairwise.nil
  | x :: l => insT_srt x _ (sortT_srt l)
theorem srtT_uniq : ∀ {l m : List (List Nat)}, l.Pairwise (fun a b => leT a b = true) → m.Pairwise (fun a b => leT a b = true) → l.Perm m → l = m
  | [], m, _, _, p => (List.nil_perm.mp p).symm
  | x :: l, [], _, _, p => by have := p.length_eq; simp at this
  | x :: l, y :: m, h1, h2, p => by
    obtain ⟨a1, a2⟩ := List.pairwise_cons.mp h1
    obtain ⟨b1, b2⟩ := List.pairwise_cons.mp h2
    have e : x = y := by
      have hx : x ∈ y :: m := p.mem_iff.mp List.mem_cons_self
      have hy : y ∈ x :: l := p.mem_iff.mpr List.mem_cons_self
      rcases List.mem_cons.mp hx with e | hx
      · exact e
      · rcases List.mem_cons.mp hy with e | hy
        · exact e.symm
        · exact leT_anti (a1 y hy) (b1 x hx)
    subst e
    rw [srtT_uniq a2 b2 (List.Perm.cons_inv p)]
def jc (j : Jm) : List Nat := [j.1, j.2.1, j.2.2]
def Nb (js : List Jm) (a b : Nat) : Prop := ∃ j ∈ js, a ∈ jc j ∧ b ∈ jc j
inductive Cn (js : List Jm) : Nat → Nat → Prop
  | refl (a : Nat) : Cn js a a
  | step {a b c : Nat} : Cn js a b → Nb js b c → Cn js a c
theorem Nb.symm {js : List Jm} {a b : Nat} (h : Nb js a b) : Nb js b a := by
  obtain ⟨j, h1, h2, h3⟩ := h
  exact ⟨j, h1, h3, h2⟩
theorem Cn.trans {js : List Jm} {a b c : Nat} (h : Cn js a b) (h2 : Cn js b c) : Cn js a c := by
  induction h2 with
  | refl => exact h
  | step _ h3 ih => exact ih.step h3
theorem Cn.symm {js : List Jm} {a b : Nat} (h : Cn js a b) : Cn js b a := by
  induction h with
  | refl => exact .refl _
  | step _ h3 ih => exact (Cn.step (.refl _) h3.symm).trans ih
theorem Cn.mono {js ks : List Jm} (hs : ∀ j ∈ js, j ∈ ks) {a b : Nat} (h : Cn js a b) : Cn ks a b := by
  induction h with
  | refl => exact .refl _
  | step _ h3 ih =>
    obtain ⟨j, h1, h2, h4⟩ := h3
    exact ih.step ⟨j, hs j h1, h2, h4⟩
structure Pr (n : Nat) (js : List Jm) (L : List (List Nat)) : Prop where
  cov : ∀ a, a < n → ∃ x ∈ L, a ∈ x
  lt : ∀ x ∈ L, ∀ a ∈ x, a < n
  cls : ∀ x ∈ L, ∀ a ∈ x, ∀ b, b ∈ x ↔ Cn js a b
  ne : ∀ x ∈ L, x ≠ []
  srt : ∀ x ∈ L, x.Pairwise (· < ·)
  nd : L.Nodup
theorem Pr.same {n : Nat} {js : List Jm} {L : List (List Nat)} (h : Pr n js L) {x y : List Nat} (hx : x ∈ L) (hy : y ∈ L) {a : Nat} (ha : a ∈ x) (hb : a ∈ y) : x = y := by
  have m : ∀ b, b ∈ x ↔ b ∈ y := fun b => by rw [h.cls x hx a ha b, h.cls y hy a hb b]
  exact srtN_uniq ((h.srt x hx).imp Nat.le_of_lt) ((h.srt y hy).imp Nat.le_of_lt) ((List.perm_ext_iff_of_nodup ((h.srt x hx).imp Nat.ne_of_lt) ((h.srt y hy).imp Nat.ne_of_lt)).mpr m)
theorem Pr.mem {n : Nat} {js : List Jm} {L M : List (List Nat)} (h : Pr n js L) (g : Pr n js M) {x : List Nat} (hx : x ∈ L) : x ∈ M := by
  obtain ⟨a, r, e⟩ := List.exists_cons_of_ne_nil (h.ne x hx)
  have ha : a ∈ x := by rw [e]; exact List.mem_cons_self
  obtain ⟨y, hy, hay⟩ := g.cov a (h.lt x hx a ha)
  have m : ∀ b, b ∈ x ↔ b ∈ y := fun b => by rw [h.cls x hx a ha b, g.cls y hy a hay b]
  have e : x = y := srtN_uniq ((h.srt x hx).imp Nat.le_of_lt) ((g.srt y hy).imp Nat.le_of_lt) ((List.perm_ext_iff_of_nodup ((h.srt x hx).imp Nat.ne_of_lt) ((g.srt y hy).imp Nat.ne_of_lt)).mpr m)
  rw [e]
  exact hy
theorem Pr.perm {n : Nat} {js : List Jm} {L M : List (List Nat)} (h : Pr n js L) (g : Pr n js M) : L.Perm M := (List.perm_ext_iff_of_nodup h.nd g.nd).mpr fun _ => ⟨fun q => h.mem g q, fun q => g.mem h q⟩
theorem Pr.sorted {n : Nat} {js : List Jm} {L M : List (List Nat)} (h : Pr n js L) (g : Pr n js M) (hs : M.Pairwise (fun a b => leT a b = true)) : sortT L = M := srtT_uniq (sortT_srt L) hs ((sortT_perm L).trans (h.perm g))
def mt (j : Jm) (x : List Nat) : Bool := (jc j).any fun c => decide (c ∈ x)
def joinT (j : Jm) (L : List (List Nat)) : List (List Nat) := (L.filter fun x => !mt j x) ++ [sortN (L.filter fun x => mt j x).flatten]
theorem mt_iff {j : Jm} {x : List Nat} : mt j x = true ↔ ∃ c ∈ jc j, c ∈ x := by
  unfold mt
  rw [List.any_eq_true]
  simp only [decide_eq_true_eq]
theorem sortN_lt {l : List Nat} (h : l.Nodup) : (sortN l).Pairwise (· < ·) := by
  have h1 : (sortN l).Nodup := (sortN_perm l).nodup_iff.mpr h
  exact (sortN_srt l).imp₂ (fun a b hab ne => Nat.lt_of_le_of_ne hab ne) h1
theorem Pr.step {n : Nat} {js : List Jm} {L : List (List Nat)} (h : Pr n js L) {j : Jm} (hj : JOk n j) : Pr n (js ++ [j]) (joinT j L) := by
  have jn : ∀ c ∈ jc j, c < n := fun c hc => by
    have hc : c ∈ [j.1, j.2.1, j.2.2] := hc
    simp only [List.mem_cons, List.not_mem_nil, or_false] at hc
    rcases hc with e | e | e
    · rw [e]; exact hj.a
    · rw [e]; exact hj.b
    · rw [e]; exact hj.c
  have mono : ∀ {a b : Nat}, Cn js a b → Cn (js ++ [j]) a b := fun q => q.mono fun k hk => List.mem_append_left _ hk
  have jj : j ∈ js ++ [j] := List.mem_append_right _ List.mem_cons_self
  have inZ : ∀ a, a ∈ sortN (L.filter fun x => mt j x).flatten ↔ ∃ x ∈ L, mt j x = true ∧ a ∈ x := fun a => by
    rw [(sortN_perm _).mem_iff, List.mem_flatten]
    constructor
    · rintro ⟨x, hx, ha⟩
      obtain ⟨h1, h2⟩ := List.mem_filter.mp hx
      exact ⟨x, h1, h2, ha⟩
    · rintro ⟨x, h1, h2, ha⟩
      exact ⟨x, List.mem_filter.mpr ⟨h1, h2⟩, ha⟩
  have cases_ : ∀ {P : List Nat → Prop}, (∀ x ∈ L, mt j x = false → P x) → P (sortN (L.filter fun x => mt j x).flatten) → ∀ x ∈ joinT j L, P x := by
    intro P p1 p2 x hx
    rcases List.mem_append.mp hx with hx | hx
    · obtain ⟨h1, h2⟩ := List.mem_filter.mp hx
      exact p1 x h1 (by simpa using h2)
    · rw [List.mem_singleton.mp hx]
      exact p2
  refine ⟨fun a ha => ?_, cases_ (fun x hx _ => h.lt x hx) (fun a ha => ?_), cases_ (fun x hx hm a ha b => ?_) (fun a ha b => ?_), cases_ (fun x hx _ => h.ne x hx) ?_, cases_ (fun x hx _ => h.srt x hx) ?_, ?_⟩
  · obtain ⟨x, hx, hax⟩ := h.cov a ha
    by_cases c : mt j x = true
    · exact ⟨_, List.mem_append_right _ List.mem_cons_self, (inZ a).mpr ⟨x, hx, c, hax⟩⟩
    · exact ⟨x, List.mem_append_left _ (List.mem_filter.mpr ⟨hx, by simpa using c⟩), hax⟩
  · obtain ⟨x, hx, _, hax⟩ := (inZ a).mp ha
    exact h.lt x hx a hax
  · constructor
    · exact fun hb => mono ((h.cls x hx a ha b).mp hb)
    · intro q
      induction q with
      | refl => exact ha
      | step _ nb ih =>
        obtain ⟨k, hk, h1, h2⟩ := nb
        rcases List.mem_append.mp hk with hk | hk
        · exact (h.cls x hx _ ih _).mpr (Cn.step (.refl _) ⟨k, hk, h1, h2⟩)
        · rw [List.mem_singleton.mp hk] at h1
          have := mt_iff.mpr ⟨_, h1, ih⟩
          rw [hm] at this
          cases this
  · constructor
    · intro hb
      obtain ⟨x, hx, hxm, hax⟩ := (inZ a).mp ha
      obtain ⟨y, hy, hym, hby⟩ := (inZ b).mp hb
      obtain ⟨c, hc, hcx⟩ := mt_iff.mp hxm
      obtain ⟨d, hd, hdy⟩ := mt_iff.mp hym
      exact ((mono ((h.cls x hx a hax c).mp hcx)).step ⟨j, jj, hc, hd⟩).trans (mono ((h.cls y hy d hdy b).mp hby))
    · intro q
      induction q with
      | refl => exact ha
      | step _ nb ih =>
        obtain ⟨k, hk, h1, h2⟩ := nb
        rcases List.mem_append.mp hk with hk | hk
        · obtain ⟨x, hx, hxm, hax⟩ := (inZ _).mp ih
          exact (inZ _).mpr ⟨x, hx, hxm, (h.cls x hx _ hax _).mpr (Cn.step (.refl _) ⟨k, hk, h1, h2⟩)⟩
        · rw [List.mem_singleton.mp hk] at h2
          obtain ⟨x, hx, hcx⟩ := h.cov _ (jn _ h2)
          exact (inZ _).mpr ⟨x, hx, mt_iff.mpr ⟨_, h2, hcx⟩, hcx⟩
  · obtain ⟨x, hx, hcx⟩ := h.cov j.1 hj.a
    have := (inZ j.1).mpr ⟨x, hx, mt_iff.mpr ⟨j.1, List.mem_cons_self, hcx⟩, hcx⟩
    exact fun z => by rw [z] at this; cases this
  · refine sortN_lt ?_
    have nd : (L.filter fun x => mt j x).Nodup := h.nd.filter _
    unfold List.Nodup
    rw [List.pairwise_flatten]
    refine ⟨fun x hx => (h.srt x (List.mem_filter.mp hx).1).imp Nat.ne_of_lt, ?_⟩
    exact nd.imp_of_mem fun {x y} hx hy ne a hax b hay e => ne (h.same (List.mem_filter.mp hx).1 (List.mem_filter.mp hy).1 hax (e ▸ hay))
  · refine List.nodup_append.mpr ⟨h.nd.filter _, by simp, fun x hx y hy e => ?_⟩
    rw [List.mem_singleton.mp hy] at e
    obtain ⟨h1, h2⟩ := List.mem_filter.mp hx
    obtain ⟨a, r, ex⟩ := List.exists_cons_of_ne_nil (h.ne x h1)
    have ha : a ∈ x := by rw [ex]; exact List.mem_cons_self
    obtain ⟨z, hz, hzm, haz⟩ := (inZ a).mp (e ▸ ha)
    rw [h.same h1 hz ha haz, hzm] at h2
    cases h2
theorem Pr.all {n : Nat} : ∀ (ks js : List Jm) {L : List (List Nat)}, Pr n js L → (∀ j ∈ ks, JOk n j) → Pr n (js ++ ks) (ks.foldl (fun L j => joinT j L) L)
  | [], js, L, h, _ => by rw [List.append_nil]; exact h
  | k :: ks, js, L, h, hk => by
    have := Pr.all ks (js ++ [k]) (h.step (hk k List.mem_cons_self)) fun j hj => hk j (List.mem_cons_of_mem _ hj)
    rw [List.append_assoc] at this
    exact this
theorem Pr.zero (n : Nat) : Pr n [] ((List.range n).map fun c => [c]) := by
  refine ⟨fun a ha => ⟨[a], List.mem_map.mpr ⟨a, List.mem_range.mpr ha, rfl⟩, List.mem_singleton.mpr rfl⟩, fun x hx a ha => ?_, fun x hx a ha b => ?_, fun x hx => ?_, fun x hx => ?_, ?_⟩
  all_goals first
    | (obtain ⟨c, hc, rfl⟩ := List.mem_map.mp hx)
    | skip
  · rw [List.mem_singleton.mp ha]; exact List.mem_range.mp hc
  · rw [List.mem_singleton.mp ha, List.mem_singleton]
    constructor
    · rintro rfl; exact .refl _
    · intro q
      cases q with
      | refl => rfl
      | step _ nb => obtain ⟨k, hk, _⟩ := nb; cases hk
  · simp
  · simp
  · unfold List.Nodup
    rw [List.pairwise_map]
    exact List.nodup_range.imp fun ne e => ne (List.cons.inj e).1
end Mi

namespace Mi
open PySem PySem.Spec PyProof.Rows L2
end Mi

namespace Mi
open PySem PySem.Spec PyProof.Rows L2
def grow1 (l : List Nat) (j : Jm) : List Nat := if mt j l = true then l ++ (jc j).filter (fun c => !decide (c ∈ l)) else l
def growR (js : List Jm) (l : List Nat) : List Nat := js.foldl grow1 l
def growN (js : List Jm) : Nat → List Nat → List Nat
  | 0, l => l
  | k + 1, l => growN js k (growR js l)
theorem grow1_sub {l : List Nat} {j : Jm} {a : Nat} (h : a ∈ l) : a ∈ grow1 l j := by
  unfold grow1
  split
  · exact List.mem_append_left _ h
  · exact h
theorem growR_sub : ∀ {js : List Jm} {l : List Nat} {a : Nat}, a ∈ l → a ∈ growR js l
  | [], _, _, h => h
  | j :: js, l, a, h => growR_sub (js := js) (grow1_sub h)
theorem growN_sub {js : List Jm} : ∀ {k : Nat} {l : List Nat} {a : Nat}, a ∈ l → a ∈ growN js k l
  | 0, _, _, h => h
  | k + 1, l, a, h => growN_sub (k := k) (growR_sub h)
structure Gw (n : Nat) (js : List Jm) (c : Nat) (l : List Nat) : Prop where
  nd : l.Nodup
  lt : ∀ a ∈ l, a < n
  cn : ∀ a ∈ l, Cn js c a
theorem jc_nodup {n : Nat} {j : Jm} (h : JOk n j) : (jc j).Nodup := by
  unfold jc
  have h1 := h.ab
  have h2 := h.ac
  have h3 := h.bc
  simp [h1, h2, h3]
theorem jc_lt {n : Nat} {j : Jm} (h : JOk n j) : ∀ c ∈ jc j, c < n := fun c hc => by
  have hc : c ∈ [j.1, j.2.1, j.2.2] := hc
  simp only [List.mem_cons, List.not_mem_nil, or_false] at hc
  rcases hc with e | e | e
  · rw [e]; exact h.a
  · rw [e]; exact h.b
  · rw [e]; exact h.c
theorem Gw.one {n : Nat} {js : List Jm} {c : Nat} {l : List Nat} (h : Gw n js c l) {j : Jm} (hj : j ∈ js) (ho : JOk n j) : Gw n js c (grow1 l j) := by
  unfold grow1
  split
  · rename_i m
    obtain ⟨d, hd, hdl⟩ := mt_iff.mp m
    refine ⟨List.nodup_append.mpr ⟨h.nd, (jc_nodup ho).filter _, fun a ha b hb e => ?_⟩, fun a ha => ?_, fun a ha => ?_⟩
    · have := (List.mem_filter.mp hb).2
      rw [← e, decide_eq_true ha] at this
      cases this
    · rcases List.mem_append.mp ha with ha | ha
      · exact h.lt a ha
      · exact jc_lt ho a (List.mem_filter.mp ha).1
    · rcases List.mem_append.mp ha with ha | ha
      · exact h.cn a ha
      · exact (h.cn d hdl).step ⟨j, hj, hd, (List.mem_filter.mp ha).1⟩
  · exact h
theorem Gw.row {n : Nat} {js : List Jm} {c : Nat} : ∀ {ks : List Jm} {l : List Nat}, Gw n js c l → (∀ j ∈ ks, j ∈ js ∧ JOk n j) → Gw n js c (growR ks l)
  | [], _, h, _ => h
  | k :: ks, l, h, hk => Gw.row (ks := ks) (h.one (hk k List.mem_cons_self).1 (hk k List.mem_cons_self).2) fun j hj => hk j (List.mem_cons_of_mem _ hj)
theorem Gw.many {n : Nat} {js : List Jm} {c : Nat} (hk : ∀ j ∈ js, j ∈ js ∧ JOk n j) : ∀ {k : Nat} {l : List Nat}, Gw n js c l → Gw n js c (growN js k l)
  | 0, _, h => h
  | k + 1, l, h => Gw.many hk (k := k) (h.row hk)
def Cl (js : List Jm) (l : List Nat) : Prop := ∀ j ∈ js, mt j l = true → ∀ c ∈ jc j, c ∈ l
theorem grow1_len {l : List Nat} {j : Jm} (h : (grow1 l j).length = l.length) : grow1 l j = l := by
  unfold grow1 at h ⊢
  split at h
  · rename_i m
    rw [if_pos m]
    rw [List.length_append] at h
    have z : (jc j).filter (fun c => !decide (c ∈ l)) = [] := List.eq_nil_of_length_eq_zero (by omega)
    rw [z, List.append_nil]
  · rename_i m
    rw [if_neg m]
theorem grow1_le (l : List Nat) (j : Jm) : l.length ≤ (grow1 l j).length := by
  unfold grow1
  split
  · rw [List.length_append]; omega
  · exact Nat.le_refl _
theorem growR_le : ∀ (js : List Jm) (l : List Nat), l.length ≤ (growR js l).length
  | [], _ => Nat.le_refl _
  | j :: js, l => Nat.le_trans (grow1_le l j) (growR_le js (grow1 l j))
theorem growR_same : ∀ {js : List Jm} {l : List Nat}, (growR js l).length = l.length → growR js l = l ∧ ∀ j ∈ js, grow1 l j = l
  | [], _, _ => ⟨rfl, fun j hj => by cases hj⟩
  | j :: js, l, h => by
    have h1 := grow1_le l j
    have h2 := growR_le js (grow1 l j)
    have h : (growR js (grow1 l j)).length = l.length := h
    have e := grow1_len (l := l) (j := j) (by omega)
    rw [e] at h
    obtain ⟨a1, a2⟩ := growR_same (js := js) h
    refine ⟨by show growR js (grow1 l j) = l; rw [e]; exact a1, fun k hk => ?_⟩
    rcases List.mem_cons.mp hk with rfl | hk
    · exact e
    · exact a2 k hk
theorem grow1_fix {l : List Nat} {j : Jm} (h : grow1 l j = l) (m : mt j l = true) : ∀ c ∈ jc j, c ∈ l := by
  intro c hc
  unfold grow1 at h
  rw [if_pos m] at h
  have e : (jc j).filter (fun c => !decide (c ∈ l)) = [] := by
    have := congrArg List.length h
    rw [List.length_append] at this
    exact List.eq_nil_of_length_eq_zero (by omega)
  have := List.filter_eq_nil_iff.mp e c hc
  simpa using this
theorem growN_closed {n : Nat} {js : List Jm} {c : Nat} (hk : ∀ j ∈ js, j ∈ js ∧ JOk n j) : ∀ (k : Nat) (l : List Nat), Gw n js c l → n ≤ l.length + k → Cl js (growN js k l)
  | 0, l, h, hl => by
    have hle : l.length ≤ n := by
      have := nodup_len h.nd (m := List.range n) fun x hx => List.mem_range.mpr (h.lt x hx)
      rw [List.length_range] at this
      exact this
    have all : ∀ x, x < n → x ∈ l := by
      intro x hx
      by_cases q : x ∈ l
      · exact q
      · have := nodup_len (l := x :: l) (m := List.range n) (List.nodup_cons.mpr ⟨q, h.nd⟩) fun y hy => by
          rcases List.mem_cons.mp hy with rfl | hy
          · exact List.mem_range.mpr hx
          · exact List.mem_range.mpr (h.lt y hy)
        rw [List.length_range, List.length_cons] at this
        omega
    exact fun j hj _ c hc => all c (jc_lt (hk j hj).2 c hc)
  | k + 1, l, h, hl => by
    have h1 := growR_le js l
    by_cases e : (growR js l).length = l.length
    · obtain ⟨a1, a2⟩ := growR_same e
      have fix : ∀ k, growN js k l = l := fun k => by
        induction k with
        | zero => rfl
        | succ k ih => show growN js k (growR js l) = l; rw [a1]; exact ih
      rw [fix]
      exact fun j hj m => grow1_fix (a2 j hj) m
    · exact growN_closed hk k (growR js l) (h.row hk) (by omega)
theorem Cl.cn {js : List Jm} {l : List Nat} (h : Cl js l) {a b : Nat} (ha : a ∈ l) (q : Cn js a b) : b ∈ l := by
  induction q with
  | refl => exact ha
  | step _ nb ih =>
    obtain ⟨j, hj, h1, h2⟩ := nb
    exact h j hj (mt_iff.mpr ⟨_, h1, ih⟩) _ h2
def lotL (w : Wd) (c : Nat) : List Nat := growN w.js w.n [c]
theorem lot_gw {w : Wd} (h : WOk w) {c : Nat} (hc : c < w.n) : Gw w.n w.js c (lotL w c) := Gw.many (fun j hj => ⟨hj, h.ok j hj⟩) ⟨by simp, fun a ha => by rw [List.mem_singleton.mp ha]; exact hc, fun a ha => by rw [List.mem_singleton.mp ha]; exact .refl _⟩
theorem lot_mem {w : Wd} (h : WOk w) {c : Nat} (hc : c < w.n) {b : Nat} : b ∈ lotL w c ↔ Cn w.js c b := by
  constructor
  · exact (lot_gw h hc).cn b
  · intro q
    have cl : Cl w.js (lotL w c) := growN_closed (c := c) (fun j hj => ⟨hj, h.ok j hj⟩) w.n [c] ⟨by simp, fun a ha => by rw [List.mem_singleton.mp ha]; exact hc, fun a ha => by rw [List.mem_singleton.mp ha]; exact .refl _⟩ (by simp)
    exact cl.cn (growN_sub (List.mem_singleton.mpr rfl)) q
def hd0 (x : List Nat) : Nat := x.headD 0
structure Fd (w : Wd) (k : Nat) (found : List (List Nat)) (seen : List Nat) : Prop where
  sn : ∀ a, a ∈ seen ↔ ∃ x ∈ found, a ∈ x
  cov : ∀ a, a < k → a ∈ seen
  lt : ∀ x ∈ found, ∀ a ∈ x, a < w.n
  cls : ∀ x ∈ found, ∀ a ∈ x, ∀ b, b ∈ x ↔ Cn w.js a b
  ne : ∀ x ∈ found, x ≠ []
  srt : ∀ x ∈ found, x.Pairwise (· < ·)
  hd : ∀ x ∈ found, hd0 x < k
  ord : found.Pairwise fun x y => hd0 x < hd0 y
theorem hd_min {x : List Nat} (hs : x.Pairwise (· < ·)) {c : Nat} (hc : c ∈ x) (hm : ∀ a ∈ x, c ≤ a) : hd0 x = c := by
  obtain ⟨a, r, rfl⟩ := List.exists_cons_of_ne_nil (List.ne_nil_of_mem hc)
  show a = c
  have h1 := hm a List.mem_cons_self
  rcases List.mem_cons.mp hc with e | hc
  · exact e.symm
  · have := (List.pairwise_cons.mp hs).1 c hc
    omega
theorem Fd.next {w : Wd} (h : WOk w) {k : Nat} (hk : k < w.n) {found : List (List Nat)} {seen : List Nat} (f : Fd w k found seen) : (k ∈ seen → Fd w (k + 1) found seen) ∧ (k ∉ seen → Fd w (k + 1) (found ++ [sortN (lotL w k)]) (seen ++ lotL w k)) := by
  constructor
  · intro c
    exact ⟨f.sn, fun a ha => by
      by_cases e : a = k
      · rw [e]; exact c
      · exact f.cov a (by omega), f.lt, f.cls, f.ne, f.srt, fun x hx => by have := f.hd x hx; omega, f.ord⟩
  · intro c
    have gw := lot_gw h hk
    have inZ : ∀ a, a ∈ sortN (lotL w k) ↔ Cn w.js k a := fun a => by rw [(sortN_perm _).mem_iff, lot_mem h hk]
    have kz : k ∈ sortN (lotL w k) := (inZ k).mpr (.refl _)
    have zs := sortN_lt gw.nd
    have hmin : ∀ a ∈ sortN (lotL w k), k ≤ a := fun a ha => by
      by_cases q : k ≤ a
      · exact q
      · exfalso
        obtain ⟨x, hx, hax⟩ := (f.sn a).mp (f.cov a (by omega))
        exact c ((f.sn k).mpr ⟨x, hx, (f.cls x hx a hax k).mpr ((inZ a).mp ha).symm⟩)
    have hk0 : hd0 (sortN (lotL w k)) = k := hd_min zs kz hmin
    have cases_ : ∀ {P : List Nat → Prop}, (∀ x ∈ found, P x) → P (sortN (lotL w k)) → ∀ x ∈ found ++ [sortN (lotL w k)], P x := by
      intro P p1 p2 x hx
      rcases List.mem_append.mp hx with hx | hx
      · exact p1 x hx
      · rw [List.mem_singleton.mp hx]; exact p2
    refine ⟨fun a => ?_, fun a ha => ?_, cases_ f.lt fun a ha => gw.lt a ((sortN_perm _).mem_iff.mp ha), cases_ f.cls fun a ha b => ?_, cases_ f.ne (List.ne_nil_of_mem kz), cases_ f.srt zs, cases_ (fun x hx => by have := f.hd x hx; omega) (by omega), ?_⟩
    · rw [List.mem_append, f.sn]
      constructor
      · rintro (⟨x, hx, ha⟩ | ha)
        · exact ⟨x, List.mem_append_left _ hx, ha⟩
        · exact ⟨_, List.mem_append_right _ List.mem_cons_self, (sortN_perm _).mem_iff.mpr ha⟩
      · rintro ⟨x, hx, ha⟩
        rcases List.mem_append.mp hx with hx | hx
        · exact .inl ⟨x, hx, ha⟩
        · rw [List.mem_singleton.mp hx] at ha
          exact .inr ((sortN_perm _).mem_iff.mp ha)
    · by_cases e : a = k
      · rw [e]; exact List.mem_append_right _ ((sortN_perm _).mem_iff.mp kz)
      · exact List.mem_append_left _ (f.cov a (by omega))
    · rw [inZ]
      have := (inZ a).mp ha
      exact ⟨fun q => this.symm.trans q, fun q => this.trans q⟩
    · refine List.pairwise_append.mpr ⟨f.ord, List.pairwise_singleton _ _, fun x hx y hy => ?_⟩
      rw [List.mem_singleton.mp hy, hk0]
      exact f.hd x hx
end Mi

namespace Mi
open PySem PySem.Spec PyProof.Rows L2
end Mi

namespace Mi
open PySem PySem.Spec PyProof.Rows L2
end Mi

namespace Mi
open PySem PySem.Spec PyProof.Rows L2
def shJ (m : Nat) (j : Jm) : Jm := (j.1 + m, j.2.1 + m, j.2.2 + m)
end Mi

namespace Mi
open PySem PySem.Spec PyProof.Rows L2
section
variable {w : Wd} (h : WOk w) {s : Std} (hs : s.length = w.n) {l : List Std} (e : allFrom w s = some l)
include h hs e
end
section
variable {w : Wd} (h : WOk w) {s : Std} (hs : s.length = w.n) {l : List Std} (e : allFrom w s = some l)
include h hs e
end
end Mi

namespace Mi
open PySem PySem.Spec PyProof.Rows L2
def lay (w u : Wd) : Wd := ⟨w.n + u.n, w.js ++ u.js.map (shJ w.n)⟩
end Mi

namespace Mi
open PySem PySem.Spec PyProof.Rows L2
end Mi

namespace Mi
open PySem PySem.Spec PyProof.Rows L2
section
variable {w u : Wd} (h : WOk w) (g : WOk u) (hL : WOk (lay w u)) {s t : Std} (hs : s.length = w.n) (ht : t.length = u.n) {l m : List Std} (e : allFrom w s = some l) (e2 : allFrom u t = some m)
include h g hL hs ht e e2
end
end Mi

namespace Mi
open PySem PySem.Spec PyProof.Rows L2
end Mi

namespace Mi
open PySem PySem.Spec PyProof.Rows L2
end Mi

namespace Mi
open PySem PySem.Spec PyProof.Rows L2
end Mi

namespace Mi
open PySem PySem.Spec PyProof.Rows L2
end Mi

namespace Mi
open PySem PySem.Spec PyProof.Rows L2
end Mi

namespace Mi
open PySem PySem.Spec PyProof.Rows L2
end Mi

namespace Mi
open PySem PySem.Spec PyProof.Rows L2
end Mi

namespace Mi
open PySem PySem.Spec PyProof.Rows L2
end Mi

namespace Mi
open PySem PySem.Spec PyProof.Rows L2
def nums : List (List Nat) := [[51], [52], [53], [54], [55], [56], [57], [49, 48], [49, 49], [49, 50]]
end Mi

namespace Mi
open PySem PySem.Spec PyProof.Rows L2
section
variable {w : Wd} (h : WOk w)
include h
end
end Mi

namespace Mi
open PySem PySem.Spec PyProof.Rows L2
theorem zseq_nx {f g : Env → SX} {r r' : Env} {x : SX} (h : f r = .nx r') (h2 : g r' = x) : zSeq f g r = x := by
  unfold zSeq
  rw [h]
  exact h2
theorem zseq_rt {f g : Env → SX} {r r' : Env} {d : Da} (h : f r = .rt d r') : zSeq f g r = .rt d r' := by
  unfold zSeq
  rw [h]
theorem zseq_er {f g : Env → SX} {r r' : Env} {d : String} (h : f r = .er d r') : zSeq f g r = .er d r' := by
  unfold zSeq
  rw [h]
theorem zexp_ok {f : Env → RX Da} {r r' : Env} {d : Da} (h : f r = .ok d r') : zExp f r = .nx r' := by
  unfold zExp
  rw [h]
  rfl
theorem zset_ok {i : Nat} {f : Env → RX Da} {r r' : Env} {d : Da} (h : f r = .ok d r') : zSet i f r = .nx (r'.set i (.fz d)) := by
  unfold zSet
  rw [h]
  rfl
theorem zset_er {i : Nat} {f : Env → RX Da} {r r' : Env} {d : String} (h : f r = .er d r') : zSet i f r = .er d r' := by
  unfold zSet
  rw [h]
  rfl
theorem zret_ok {f : Env → RX Da} {r r' : Env} {d : Da} (h : f r = .ok d r') : zRet f r = .rt d r' := by
  unfold zRet
  rw [h]
  rfl
theorem xl_ok {f : Env → R Da} {r : Env} {d : Da} (h : f r = .ok d) : xL f r = .ok d r := by
  unfold xL
  rw [h]
  rfl
theorem zif_t {c : Env → R Bool} {f g : Env → SX} {r : Env} {x : SX} (h : c r = .ok true) (h2 : f r = x) : zIf c f g r = x := by
  unfold zIf
  rw [h]
  exact h2
theorem zif_f {c : Env → R Bool} {f g : Env → SX} {r : Env} {x : SX} (h : c r = .ok false) (h2 : g r = x) : zIf c f g r = x := by
  unfold zIf
  rw [h]
  exact h2
theorem xif_t {c : Env → R Bool} {f g : Env → RX Da} {r : Env} {x : RX Da} (h : c r = .ok true) (h2 : f r = x) : xIf c f g r = x := by
  unfold xIf
  rw [h]
  exact h2
theorem xif_f {c : Env → R Bool} {f g : Env → RX Da} {r : Env} {x : RX Da} (h : c r = .ok false) (h2 : g r = x) : xIf c f g r = x := by
  unfold xIf
  rw [h]
  exact h2
theorem fapp_ok {r : Env} {i j : Nat} {w : Da} {ls : List (List Da)} {l : List Da} {d : Da} {f : Env → R Da} (h0 : r[i]? = some (.cm ⟨.bo, w, ls⟩)) (h1 : ls[j]? = some l) (h2 : f r = .ok d) (hl : l.length < 100000) : xFapp i j f r = .ok .none (r.set i (.cm ⟨.bo, w, ls.set j (l ++ [d])⟩)) := by
  unfold xFapp boB
  rw [h0]
  dsimp only
  rw [h1, h2]
  show (if l.length < 100000 then _ else _) = _
  rw [if_pos hl]
theorem fpop_ok {r : Env} {i j : Nat} {w : Da} {ls : List (List Da)} {l : List Da} {d : Da} (h0 : r[i]? = some (.cm ⟨.bo, w, ls⟩)) (h1 : ls[j]? = some (l ++ [d])) : xFpop i j r = .ok d (r.set i (.cm ⟨.bo, w, ls.set j l⟩)) := by
  unfold xFpop boB
  rw [h0]
  dsimp only
  rw [h1]
  simp only [List.getLast?_concat, List.dropLast_concat]
theorem fmove_ok {r : Env} {i a b : Nat} {w : Da} {ls : List (List Da)} {la lb : List Da} {d : Da} (h0 : r[i]? = some (.cm ⟨.bo, w, ls⟩)) (h1 : ls[a]? = some la) (h2 : ls[b]? = some (lb ++ [d])) (hl : la.length < 100000) : xFmove i a b r = .ok .none (r.set i (.cm ⟨.bo, w, (ls.set b lb).set a (la ++ [d])⟩)) := by
  unfold xFmove boB
  rw [h0]
  dsimp only
  rw [h1]
  dsimp only
  rw [h2]
  simp only [List.getLast?_concat, List.dropLast_concat]
  rw [if_pos hl]
theorem meth_ok {mm : Cm → List Da → RM} {r : Env} {i : Nat} {w : Da} {ls : List (List Da)} {fs : Env → R (List Da)} {ds : List Da} {d : Da} {c : Cm} (h0 : r[i]? = some (.cm ⟨.bo, w, ls⟩)) (h1 : fs r = .ok ds) (h2 : mm ⟨.bo, w, ls⟩ ds = .ok d c) : xMeth mm i fs r = .ok d (r.set i (.cm c)) := by
  unfold xMeth
  rw [h0]
  dsimp only
  rw [h1]
  show xRM i r (mm ⟨.bo, w, ls⟩ ds) = _
  rw [h2]
  rfl
theorem meth_er {mm : Cm → List Da → RM} {r : Env} {i : Nat} {w : Da} {ls : List (List Da)} {fs : Env → R (List Da)} {ds : List Da} {d : String} {c : Cm} (h0 : r[i]? = some (.cm ⟨.bo, w, ls⟩)) (h1 : fs r = .ok ds) (h2 : mm ⟨.bo, w, ls⟩ ds = .er d c) : xMeth mm i fs r = .er d (r.set i (.cm c)) := by
  unfold xMeth
  rw [h0]
  dsimp only
  rw [h1]
  show xRM i r (mm ⟨.bo, w, ls⟩ ds) = _
  rw [h2]
  rfl
theorem lastD (l : List Da) (d : Da) : dItem' (.list (l ++ [d])) (.int (-1)) = .ok d := by
  show (match atD (l ++ [d]) (-1) with | some d => R.ok d | none => .no) = _
  have e : atD (l ++ [d]) (-1) = some d := by
    unfold atD ixN
    rw [List.length_append, List.length_singleton, if_neg (by decide), if_pos (by omega)]
    have : (-1 + ((l.length + 1 : Nat) : Int)).toNat = l.length := by omega
    first
      | (show (l ++ [d])[_]? = _; rw [this, List.getElem?_append_right (Nat.le_refl _), Nat.sub_self]; rfl)
      | (simp; done)
  rw [e]
theorem ng1 (r : Env) : eNeg (eC (.int 1)) r = .ok (.int (-1)) := rfl
theorem fldC0 (w : Da) (a b c : List Da) (r : Env) : eFldC 0 0 (.cm ⟨.bo, w, [a, b, c]⟩ :: r) = .ok (.list a) := rfl
theorem fldC1 (w : Da) (a b c : List Da) (r : Env) : eFldC 0 1 (.cm ⟨.bo, w, [a, b, c]⟩ :: r) = .ok (.list b) := rfl
theorem fldC2 (w : Da) (a b c : List Da) (r : Env) : eFldC 0 2 (.cm ⟨.bo, w, [a, b, c]⟩ :: r) = .ok (.list c) := rfl
theorem fldW0 (w : Da) (ls : List (List Da)) (r : Env) : eFldW 0 (.cm ⟨.bo, w, ls⟩ :: r) = .ok w := rfl
section
variable {w : Wd} (h : WOk w) {t : Std} (ht : t.length = w.n)
abbrev bo (w : Wd) (R N U : List Da) : Cm := ⟨.bo, encW w, [R, N, U]⟩
theorem stepD_j {t t' : Std} {n : Nat} (e : stepD w t (encN n) = some t') : ∃ j, w.js[n]? = some j ∧ hasL t j true true false = true ∧ t' = putL t j false false true := by
  unfold stepD encN at e
  dsimp only at e
  rw [if_pos (by omega), Int.toNat_natCast] at e
  cases hj : w.js[n]? with
  | none => rw [hj] at e; cases e
  | some j =>
    rw [hj] at e
    dsimp only at e
    by_cases hh : hasL t j true true false = true
    · rw [if_pos hh] at e
      cases e
      exact ⟨j, rfl, hh, rfl⟩
    · rw [if_neg hh] at e
      cases e
include h ht
theorem go_ok {R N U : List Da} (hR : R.length < 1000) (hN : N.length < 1000) {n : Nat} {t' : Std} (e : stepD w t (encN n) = some t') :
    x_Board_go (bo w (R ++ [encS t]) N U) [encN n] = .ok (.int (pegs t' : Nat)) (bo w ((R ++ [encS t]) ++ [encS t']) (N ++ [encN n]) U) := by
  obtain ⟨j, hj, hh, rfl⟩ := stepD_j e
  have hjo := h.ok j (List.mem_of_getElem? hj)
  have hit : dItem' (.tuple (w.js.map encJ)) (encN n) = .ok (encJ j) := item_T (by rw [List.getElem?_map, hj]; rfl)
  have hpu := put_ok hjo ht h.hi false false true
  rw [← encS_dd] at hpu
  have l1 := lastD R (encS t)
  have l2 := lastD (R ++ [encS t]) (encS (putL t j false false true))
  have z1 : y_Board_go [.cm (bo w (R ++ [encS t]) N U), .fz (encN n)] = .rt (.int (pegs (putL t j false false true) : Nat)) [.cm (bo w ((R ++ [encS t]) ++ [encS (putL t j false false true)]) (N ++ [encN n]) U), .fz (encN n)] := by
    refine zseq_nx (r' := [.cm (bo w ((R ++ [encS t]) ++ [encS (putL t j false false true)]) N U), .fz (encN n)]) (zexp_ok (d := .none) ((fapp_ok (w := encW w) (ls := [R ++ [encS t], N, U]) (l := R ++ [encS t]) (d := encS (putL t j false false true)) rfl rfl ?_ ?_).trans rfl)) ?_
    · simp (config := { decide := false }) only [_root_.Mi.v0, _root_.Mi.vS, _root_.Mi.rd0f, _root_.Mi.rd0o, _root_.Mi.rdS, _root_.Mi.iteT, _root_.Mi.iteF, bS_ok, bS_er, bS_no, oNo, sSeq_ap, sSet_ap, sOwn_ap, sExp_ap, sRet_ap, sIf_ap, sNil_ap, eBin_ap, eCall_ap, aCons_ap, aNil_ap, eC_ap, tB_ap, isB_ap, tNot_ap, tAnd_ap, tOr_ap, tTru_ap, _root_.Mi.truB, _root_.Mi.truL, _root_.Mi.truT, _root_.Mi.truI, fn_ap, _root_.Mi.env2, oRt, oNx, oEr, sRaise_ap, _root_.Mi.R.ok_bind, _root_.Mi.R.er_bind, _root_.Mi.R.no_bind, _root_.Mi.R.calm_ok, _root_.Mi.R.calm_no, List.set_cons_zero, List.set_cons_succ, List.length_cons, List.length_nil, List.map_cons, List.map_nil, List.replicate_zero, List.replicate_succ, List.cons_append, List.nil_append, Nat.reduceAdd, Nat.reduceSub, Nat.reduceEqDiff, if_true, if_false, Bool.not_true, Bool.not_false, ite_true, ite_false, reduceIte, Nat.zero_add, eBl_ap, len_L, len_T, lt_I, le_I, gt_I, sFor_ap, iD_ap, itemsL, itemsT, itemsDi, sAug_ap, List.getElem?_cons_succ, List.getElem?_cons_zero, eLst_ap, eTup_ap, mkL_ap, mkT_ap, Nat.reduceLeDiff, frzA_ap, frzA, List.length_map, wipe_nil, wipe_cons, eFz_ap, isL_ap, _root_.Mi.w0, _root_.Mi.w1, add_I, sub_I, eqInt, neInt, within_ok, sAsg_ap, gTp_ap, gsCons_ap, gsNil_ap, gNm_ap, Option.bind_some, frz_ap, frzE, eAnd_ap, eOr_ap, isN_none, isN_list, eIf_ap, iR1_ap, itL0, itL1, itL2, itL3, itL4, itL5, itT0, itT1, itT2, itT3, itT4, itT5, eRep_ap, rep2, rep3, rep4, rep5, rep6, xNil_ap, xF_ap, xO_ap, sPar2_ap, eIsi_ap, many_str, never_str, fldC0, ng1, l1, fldW0, hit, hpu]
    · rw [List.length_append, List.length_singleton]; omega
    refine zseq_nx (r' := [.cm (bo w ((R ++ [encS t]) ++ [encS (putL t j false false true)]) (N ++ [encN n]) U), .fz (encN n)]) (zexp_ok (d := .none) ((fapp_ok (w := encW w) (ls := [(R ++ [encS t]) ++ [encS (putL t j false false true)], N, U]) (l := N) (d := encN n) rfl rfl rfl (by omega)).trans rfl)) ?_
    refine zret_ok (xl_ok (ms_pegs ?_))
    simp (config := { decide := false }) only [_root_.Mi.v0, _root_.Mi.vS, _root_.Mi.rd0f, _root_.Mi.rd0o, _root_.Mi.rdS, _root_.Mi.iteT, _root_.Mi.iteF, bS_ok, bS_er, bS_no, oNo, sSeq_ap, sSet_ap, sOwn_ap, sExp_ap, sRet_ap, sIf_ap, sNil_ap, eBin_ap, eCall_ap, aCons_ap, aNil_ap, eC_ap, tB_ap, isB_ap, tNot_ap, tAnd_ap, tOr_ap, tTru_ap, _root_.Mi.truB, _root_.Mi.truL, _root_.Mi.truT, _root_.Mi.truI, fn_ap, _root_.Mi.env2, oRt, oNx, oEr, sRaise_ap, _root_.Mi.R.ok_bind, _root_.Mi.R.er_bind, _root_.Mi.R.no_bind, _root_.Mi.R.calm_ok, _root_.Mi.R.calm_no, List.set_cons_zero, List.set_cons_succ, List.length_cons, List.length_nil, List.map_cons, List.map_nil, List.replicate_zero, List.replicate_succ, List.cons_append, List.nil_append, Nat.reduceAdd, Nat.reduceSub, Nat.reduceEqDiff, if_true, if_false, Bool.not_true, Bool.not_false, ite_true, ite_false, reduceIte, Nat.zero_add, eBl_ap, len_L, len_T, lt_I, le_I, gt_I, sFor_ap, iD_ap, itemsL, itemsT, itemsDi, sAug_ap, List.getElem?_cons_succ, List.getElem?_cons_zero, eLst_ap, eTup_ap, mkL_ap, mkT_ap, Nat.reduceLeDiff, frzA_ap, frzA, List.length_map, wipe_nil, wipe_cons, eFz_ap, isL_ap, _root_.Mi.w0, _root_.Mi.w1, add_I, sub_I, eqInt, neInt, within_ok, sAsg_ap, gTp_ap, gsCons_ap, gsNil_ap, gNm_ap, Option.bind_some, frz_ap, frzE, eAnd_ap, eOr_ap, isN_none, isN_list, eIf_ap, iR1_ap, itL0, itL1, itL2, itL3, itL4, itL5, itT0, itT1, itT2, itT3, itT4, itT5, eRep_ap, rep2, rep3, rep4, rep5, rep6, xNil_ap, xF_ap, xO_ap, sPar2_ap, eIsi_ap, many_str, never_str, fldC0, ng1, l2]
  show outX (y_Board_go [.cm (bo w (R ++ [encS t]) N U), .fz (encN n)]) = _
  rw [z1]
  rfl
theorem jump_ok {R N U : List Da} (hR : R.length < 1000) (hN : N.length < 1000) {d : Da} :
    x_Board_jump (bo w (R ++ [encS t]) N U) [d] = match stepD w t d with
      | some t' => .ok (.int (pegs t' : Nat)) (bo w ((R ++ [encS t]) ++ [encS t']) (N ++ [d]) [])
      | none => .er "BadJump" (bo w (R ++ [encS t]) N U) := by
  have l1 := lastD R (encS t)
  show outX (y_Board_jump [.cm (bo w (R ++ [encS t]) N U), .fz d]) = _
  have no : inRg 0 ((w.js.length : Int) - 1) d = false → y_Board_jump [.cm (bo w (R ++ [encS t]) N U), .fz d] = .er "BadJump" [.cm (bo w (R ++ [encS t]) N U), .fz d] := fun hi => by
    refine zseq_er (zif_t ?_ rfl)
    simp (config := { decide := false }) only [_root_.Mi.v0, _root_.Mi.vS, _root_.Mi.rd0f, _root_.Mi.rd0o, _root_.Mi.rdS, _root_.Mi.iteT, _root_.Mi.iteF, bS_ok, bS_er, bS_no, oNo, sSeq_ap, sSet_ap, sOwn_ap, sExp_ap, sRet_ap, sIf_ap, sNil_ap, eBin_ap, eCall_ap, aCons_ap, aNil_ap, eC_ap, tB_ap, isB_ap, tNot_ap, tAnd_ap, tOr_ap, tTru_ap, _root_.Mi.truB, _root_.Mi.truL, _root_.Mi.truT, _root_.Mi.truI, fn_ap, _root_.Mi.env2, oRt, oNx, oEr, sRaise_ap, _root_.Mi.R.ok_bind, _root_.Mi.R.er_bind, _root_.Mi.R.no_bind, _root_.Mi.R.calm_ok, _root_.Mi.R.calm_no, List.set_cons_zero, List.set_cons_succ, List.length_cons, List.length_nil, List.map_cons, List.map_nil, List.replicate_zero, List.replicate_succ, List.cons_append, List.nil_append, Nat.reduceAdd, Nat.reduceSub, Nat.reduceEqDiff, if_true, if_false, Bool.not_true, Bool.not_false, ite_true, ite_false, reduceIte, Nat.zero_add, eBl_ap, len_L, len_T, lt_I, le_I, gt_I, sFor_ap, iD_ap, itemsL, itemsT, itemsDi, sAug_ap, List.getElem?_cons_succ, List.getElem?_cons_zero, eLst_ap, eTup_ap, mkL_ap, mkT_ap, Nat.reduceLeDiff, frzA_ap, frzA, List.length_map, wipe_nil, wipe_cons, eFz_ap, isL_ap, _root_.Mi.w0, _root_.Mi.w1, add_I, sub_I, eqInt, neInt, within_ok, sAsg_ap, gTp_ap, gsCons_ap, gsNil_ap, gNm_ap, Option.bind_some, frz_ap, frzE, eAnd_ap, eOr_ap, isN_none, isN_list, eIf_ap, iR1_ap, itL0, itL1, itL2, itL3, itL4, itL5, itT0, itT1, itT2, itT3, itT4, itT5, eRep_ap, rep2, rep3, rep4, rep5, rep6, xNil_ap, xF_ap, xO_ap, sPar2_ap, eIsi_ap, many_str, never_str, fldW0, within_d, hi]
  cases e : stepD w t d with
  | some t' =>
    obtain ⟨n, rfl, _⟩ := stepD_mv e
    obtain ⟨j, hj, hh, et⟩ := stepD_j e
    have hl := (List.getElem?_eq_some_iff.mp hj).1
    have hjo := h.ok j (List.mem_of_getElem? hj)
    have hit : dItem' (.tuple (w.js.map encJ)) (encN n) = .ok (encJ j) := item_T (by rw [List.getElem?_map, hj]; rfl)
    have hha := has_ok hjo ht h.hi true true false
    rw [← encS_oo, hh] at hha
    have hi : inRg 0 ((w.js.length : Int) - 1) (encN n) = true := by
      show (decide ((0 : Int) ≤ (n : Int)) && decide ((n : Int) ≤ (w.js.length : Int) - 1)) = true
      rw [decide_eq_true (by omega), decide_eq_true (by omega)]
      rfl
    have z1 : y_Board_jump [.cm (bo w (R ++ [encS t]) N U), .fz (encN n)] = .rt (.int (pegs t' : Nat)) [.cm (bo w ((R ++ [encS t]) ++ [encS t']) (N ++ [encN n]) []), .fz (encN n)] := by
      refine zseq_nx (r' := [.cm (bo w (R ++ [encS t]) N U), .fz (encN n)]) (zif_f ?_ rfl) ?_
      · simp (config := { decide := false }) only [_root_.Mi.v0, _root_.Mi.vS, _root_.Mi.rd0f, _root_.Mi.rd0o, _root_.Mi.rdS, _root_.Mi.iteT, _root_.Mi.iteF, bS_ok, bS_er, bS_no, oNo, sSeq_ap, sSet_ap, sOwn_ap, sExp_ap, sRet_ap, sIf_ap, sNil_ap, eBin_ap, eCall_ap, aCons_ap, aNil_ap, eC_ap, tB_ap, isB_ap, tNot_ap, tAnd_ap, tOr_ap, tTru_ap, _root_.Mi.truB, _root_.Mi.truL, _root_.Mi.truT, _root_.Mi.truI, fn_ap, _root_.Mi.env2, oRt, oNx, oEr, sRaise_ap, _root_.Mi.R.ok_bind, _root_.Mi.R.er_bind, _root_.Mi.R.no_bind, _root_.Mi.R.calm_ok, _root_.Mi.R.calm_no, List.set_cons_zero, List.set_cons_succ, List.length_cons, List.length_nil, List.map_cons, List.map_nil, List.replicate_zero, List.replicate_succ, List.cons_append, List.nil_append, Nat.reduceAdd, Nat.reduceSub, Nat.reduceEqDiff, if_true, if_false, Bool.not_true, Bool.not_false, ite_true, ite_false, reduceIte, Nat.zero_add, eBl_ap, len_L, len_T, lt_I, le_I, gt_I, sFor_ap, iD_ap, itemsL, itemsT, itemsDi, sAug_ap, List.getElem?_cons_succ, List.getElem?_cons_zero, eLst_ap, eTup_ap, mkL_ap, mkT_ap, Nat.reduceLeDiff, frzA_ap, frzA, List.length_map, wipe_nil, wipe_cons, eFz_ap, isL_ap, _root_.Mi.w0, _root_.Mi.w1, add_I, sub_I, eqInt, neInt, within_ok, sAsg_ap, gTp_ap, gsCons_ap, gsNil_ap, gNm_ap, Option.bind_some, frz_ap, frzE, eAnd_ap, eOr_ap, isN_none, isN_list, eIf_ap, iR1_ap, itL0, itL1, itL2, itL3, itL4, itL5, itT0, itT1, itT2, itT3, itT4, itT5, eRep_ap, rep2, rep3, rep4, rep5, rep6, xNil_ap, xF_ap, xO_ap, sPar2_ap, eIsi_ap, many_str, never_str, fldW0, within_d, hi, fldC0, ng1, l1, hit, hha]
      refine zseq_nx (r' := [.cm (bo w (R ++ [encS t]) N []), .fz (encN n)]) rfl ?_
      exact zret_ok ((meth_ok (w := encW w) (ls := [R ++ [encS t], N, []]) (ds := [encN n]) rfl rfl (go_ok h ht hR hN e)).trans rfl)
    rw [z1]
    rfl
  | none =>
    cases d with
    | int i =>
      by_cases c : 0 ≤ i
      · cases hj : w.js[i.toNat]? with
        | none =>
          have := List.getElem?_eq_none_iff.mp hj
          rw [no]
          · rfl
          · show (decide (0 ≤ i) && decide (i ≤ (w.js.length : Int) - 1)) = false
            rw [decide_eq_false (p := i ≤ (w.js.length : Int) - 1) (by omega), Bool.and_false]
        | some j =>
          have hl := (List.getElem?_eq_some_iff.mp hj).1
          have hjo := h.ok j (List.mem_of_getElem? hj)
          have hi : inRg 0 ((w.js.length : Int) - 1) (.int i) = true := by
            show (decide (0 ≤ i) && decide (i ≤ (w.js.length : Int) - 1)) = true
            rw [decide_eq_true c, decide_eq_true (by omega)]
            rfl
          have hit : dItem' (.tuple (w.js.map encJ)) (.int i) = .ok (encJ j) := by
            have e : i = (i.toNat : Int) := (Int.toNat_of_nonneg c).symm
            rw [e]
            exact item_T (by rw [List.getElem?_map, hj]; rfl)
          have hha := has_ok hjo ht h.hi true true false
          have hh : hasL t j true true false = false := by
            unfold stepD at e
            dsimp only at e
            rw [if_pos c, hj] at e
            dsimp only at e
            cases q : hasL t j true true false with
            | false => rfl
            | true => rw [if_pos q] at e; cases e
          rw [← encS_oo, hh] at hha
          have z1 : y_Board_jump [.cm (bo w (R ++ [encS t]) N U), .fz (.int i)] = .er "BadJump" [.cm (bo w (R ++ [encS t]) N U), .fz (.int i)] := by
            refine zseq_er (zif_t ?_ rfl)
            simp (config := { decide := false }) only [_root_.Mi.v0, _root_.Mi.vS, _root_.Mi.rd0f, _root_.Mi.rd0o, _root_.Mi.rdS, _root_.Mi.iteT, _root_.Mi.iteF, bS_ok, bS_er, bS_no, oNo, sSeq_ap, sSet_ap, sOwn_ap, sExp_ap, sRet_ap, sIf_ap, sNil_ap, eBin_ap, eCall_ap, aCons_ap, aNil_ap, eC_ap, tB_ap, isB_ap, tNot_ap, tAnd_ap, tOr_ap, tTru_ap, _root_.Mi.truB, _root_.Mi.truL, _root_.Mi.truT, _root_.Mi.truI, fn_ap, _root_.Mi.env2, oRt, oNx, oEr, sRaise_ap, _root_.Mi.R.ok_bind, _root_.Mi.R.er_bind, _root_.Mi.R.no_bind, _root_.Mi.R.calm_ok, _root_.Mi.R.calm_no, List.set_cons_zero, List.set_cons_succ, List.length_cons, List.length_nil, List.map_cons, List.map_nil, List.replicate_zero, List.replicate_succ, List.cons_append, List.nil_append, Nat.reduceAdd, Nat.reduceSub, Nat.reduceEqDiff, if_true, if_false, Bool.not_true, Bool.not_false, ite_true, ite_false, reduceIte, Nat.zero_add, eBl_ap, len_L, len_T, lt_I, le_I, gt_I, sFor_ap, iD_ap, itemsL, itemsT, itemsDi, sAug_ap, List.getElem?_cons_succ, List.getElem?_cons_zero, eLst_ap, eTup_ap, mkL_ap, mkT_ap, Nat.reduceLeDiff, frzA_ap, frzA, List.length_map, wipe_nil, wipe_cons, eFz_ap, isL_ap, _root_.Mi.w0, _root_.Mi.w1, add_I, sub_I, eqInt, neInt, within_ok, sAsg_ap, gTp_ap, gsCons_ap, gsNil_ap, gNm_ap, Option.bind_some, frz_ap, frzE, eAnd_ap, eOr_ap, isN_none, isN_list, eIf_ap, iR1_ap, itL0, itL1, itL2, itL3, itL4, itL5, itT0, itT1, itT2, itT3, itT4, itT5, eRep_ap, rep2, rep3, rep4, rep5, rep6, xNil_ap, xF_ap, xO_ap, sPar2_ap, eIsi_ap, many_str, never_str, fldW0, within_d, hi, fldC0, ng1, l1, hit, hha]
          rw [z1]
          rfl
      · rw [no]
        · rfl
        · show (decide (0 ≤ i) && decide (i ≤ (w.js.length : Int) - 1)) = false
          rw [decide_eq_false c, Bool.false_and]
    | none => rw [no rfl]; rfl
    | bool _ => rw [no rfl]; rfl
    | str _ => rw [no rfl]; rfl
    | list _ => rw [no rfl]; rfl
    | tuple _ => rw [no rfl]; rfl
    | dict _ => rw [no rfl]; rfl
end
section
variable {w : Wd}
theorem back_ok {R N U : List Da} {t n : Da} (hU : U.length < 1000) : x_Board_back (bo w (R ++ [t]) (N ++ [n]) U) [] = .ok n (bo w R N (U ++ [n])) := by
  have l2 := lastD U n
  have c : truthD (.list (N ++ [n])) = .ok true := by
    show Mi.R.ok (!(N ++ [n]).isEmpty) = _
    cases N <;> rfl
  have z1 : y_Board_back [.cm (bo w (R ++ [t]) (N ++ [n]) U)] = .rt n [.cm (bo w R N (U ++ [n]))] := by
    refine zseq_nx (r' := [.cm (bo w (R ++ [t]) (N ++ [n]) U)]) (zif_f ?_ rfl) ?_
    · unfold tNot tTru
      rw [fldC1]
      show Mi.R.bind (truthD (.list (N ++ [n]))) _ = _
      rw [c]
      rfl
    refine zseq_nx (r' := [.cm (bo w R (N ++ [n]) U)]) (zexp_ok (d := t) ((fpop_ok (w := encW w) (ls := [R ++ [t], N ++ [n], U]) (l := R) rfl rfl).trans rfl)) ?_
    refine zseq_nx (r' := [.cm (bo w R N (U ++ [n]))]) (zexp_ok (d := .none) ((fmove_ok (w := encW w) (ls := [R, N ++ [n], U]) (la := U) (lb := N) (d := n) rfl rfl rfl (by omega)).trans rfl)) ?_
    refine zret_ok (xl_ok ?_)
    simp (config := { decide := false }) only [_root_.Mi.v0, _root_.Mi.vS, _root_.Mi.rd0f, _root_.Mi.rd0o, _root_.Mi.rdS, _root_.Mi.iteT, _root_.Mi.iteF, bS_ok, bS_er, bS_no, oNo, sSeq_ap, sSet_ap, sOwn_ap, sExp_ap, sRet_ap, sIf_ap, sNil_ap, eBin_ap, eCall_ap, aCons_ap, aNil_ap, eC_ap, tB_ap, isB_ap, tNot_ap, tAnd_ap, tOr_ap, tTru_ap, _root_.Mi.truB, _root_.Mi.truL, _root_.Mi.truT, _root_.Mi.truI, fn_ap, _root_.Mi.env2, oRt, oNx, oEr, sRaise_ap, _root_.Mi.R.ok_bind, _root_.Mi.R.er_bind, _root_.Mi.R.no_bind, _root_.Mi.R.calm_ok, _root_.Mi.R.calm_no, List.set_cons_zero, List.set_cons_succ, List.length_cons, List.length_nil, List.map_cons, List.map_nil, List.replicate_zero, List.replicate_succ, List.cons_append, List.nil_append, Nat.reduceAdd, Nat.reduceSub, Nat.reduceEqDiff, if_true, if_false, Bool.not_true, Bool.not_false, ite_true, ite_false, reduceIte, Nat.zero_add, eBl_ap, len_L, len_T, lt_I, le_I, gt_I, sFor_ap, iD_ap, itemsL, itemsT, itemsDi, sAug_ap, List.getElem?_cons_succ, List.getElem?_cons_zero, eLst_ap, eTup_ap, mkL_ap, mkT_ap, Nat.reduceLeDiff, frzA_ap, frzA, List.length_map, wipe_nil, wipe_cons, eFz_ap, isL_ap, _root_.Mi.w0, _root_.Mi.w1, add_I, sub_I, eqInt, neInt, within_ok, sAsg_ap, gTp_ap, gsCons_ap, gsNil_ap, gNm_ap, Option.bind_some, frz_ap, frzE, eAnd_ap, eOr_ap, isN_none, isN_list, eIf_ap, iR1_ap, itL0, itL1, itL2, itL3, itL4, itL5, itT0, itT1, itT2, itT3, itT4, itT5, eRep_ap, rep2, rep3, rep4, rep5, rep6, xNil_ap, xF_ap, xO_ap, sPar2_ap, eIsi_ap, many_str, never_str, fldC2, ng1, l2]
  show outX (y_Board_back [.cm (bo w (R ++ [t]) (N ++ [n]) U)]) = _
  rw [z1]
  rfl
theorem back_no {R U : List Da} : x_Board_back (bo w R [] U) [] = .er "Nothing" (bo w R [] U) := rfl
theorem again_no {R N : List Da} : x_Board_again (bo w R N []) [] = .er "Nothing" (bo w R N []) := rfl
theorem again_ok (h : WOk w) {t : Std} (ht : t.length = w.n) {R N U : List Da} (hR : R.length < 1000) (hN : N.length < 1000) {n : Nat} {t' : Std} (e : stepD w t (encN n) = some t') :
    x_Board_again (bo w (R ++ [encS t]) N (U ++ [encN n])) [] = .ok (encN n) (bo w ((R ++ [encS t]) ++ [encS t']) (N ++ [encN n]) U) := by
  have c : truthD (.list (U ++ [encN n])) = .ok true := by
    show Mi.R.ok (!(U ++ [encN n]).isEmpty) = _
    cases U <;> rfl
  have z1 : y_Board_again [.cm (bo w (R ++ [encS t]) N (U ++ [encN n])), .un] = .rt (encN n) [.cm (bo w ((R ++ [encS t]) ++ [encS t']) (N ++ [encN n]) U), .fz (encN n)] := by
    refine zseq_nx (r' := [.cm (bo w (R ++ [encS t]) N (U ++ [encN n])), .un]) (zif_f ?_ rfl) ?_
    · unfold tNot tTru
      rw [fldC2]
      show Mi.R.bind (truthD (.list (U ++ [encN n]))) _ = _
      rw [c]
      rfl
    refine zseq_nx (r' := [.cm (bo w (R ++ [encS t]) N U), .fz (encN n)]) ((zset_ok (d := encN n) (fpop_ok (w := encW w) (ls := [R ++ [encS t], N, U ++ [encN n]]) (l := U) rfl rfl)).trans rfl) ?_
    refine zseq_nx (r' := [.cm (bo w ((R ++ [encS t]) ++ [encS t']) (N ++ [encN n]) U), .fz (encN n)]) (zexp_ok (d := .int (pegs t' : Nat)) ((meth_ok (w := encW w) (ls := [R ++ [encS t], N, U]) (ds := [encN n]) rfl rfl (go_ok h ht hR hN e)).trans rfl)) ?_
    exact zret_ok (xl_ok rfl)
  show outX (y_Board_again [.cm (bo w (R ++ [encS t]) N (U ++ [encN n])), .un]) = _
  rw [z1]
  rfl
end
end Mi

namespace Mi
open PySem PySem.Spec PyProof.Rows L2
abbrev sJ : Da := .str (Str.ofString "jump")
abbrev sBa : Da := .str (Str.ofString "back")
abbrev sAg : Da := .str (Str.ofString "again")
abbrev sNt : Da := .str (Str.ofString "nothing")
abbrev jD (d : Da) : Da := .tuple [sJ, d]
abbrev bD : Da := .tuple [sBa]
abbrev aD : Da := .tuple [sAg]
theorem qJJ : dEq sJ sJ = .ok (.bool true) := by kernel_rfl
theorem qBJ : dEq sBa sJ = .ok (.bool false) := by kernel_rfl
theorem qAJ : dEq sAg sJ = .ok (.bool false) := by kernel_rfl
theorem qBB : dEq sBa sBa = .ok (.bool true) := by kernel_rfl
theorem qAB : dEq sAg sBa = .ok (.bool false) := by kernel_rfl
theorem qJB : dEq sJ sBa = .ok (.bool false) := by kernel_rfl
theorem qAA : dEq sAg sAg = .ok (.bool true) := by kernel_rfl
theorem qJA : dEq sJ sAg = .ok (.bool false) := by kernel_rfl
theorem ztry_nx {L : List String} {f : Env → SX} {hs : List (String × (Env → SX))} {r r' : Env} (h : f r = .nx r') : zTry L f hs r = .nx r' := by
  unfold zTry
  rw [h]
theorem ztry_er {L : List String} {f : Env → SX} {hs : List (String × (Env → SX))} {r r' : Env} {c : String} {x : SX} (h : f r = .er c r') (hc : c ∈ L) (h2 : hdZ c r' hs = x) : zTry L f hs r = x := by
  unfold zTry
  rw [h]
  show (if c ∈ L then hdZ c r' hs else .no) = _
  rw [if_pos hc]
  exact h2
section
variable {w : Da} {ls : List (List Da)}
theorem lb_jump {d v : Da} {c1 : Cm} (e : x_Board_jump ⟨.bo, w, ls⟩ [d] = .ok v c1) : x__law_board ⟨.bo, w, ls⟩ [jD d] = .ok v c1 := by
  show outX (y__law_board [.cm ⟨.bo, w, ls⟩, .fz (jD d), .un]) = _
  have z1 : y__law_board [.cm ⟨.bo, w, ls⟩, .fz (jD d), .un] = .rt v [.cm c1, .fz (jD d), .fz v] := by
    refine zseq_nx (r' := [.cm ⟨.bo, w, ls⟩, .fz (jD d), .fz .none]) rfl ?_
    refine zseq_nx (r' := [.cm c1, .fz (jD d), .fz v]) (ztry_nx (zif_t ?_ ?_)) (zret_ok (xl_ok rfl))
    · simp (config := { decide := false }) only [_root_.Mi.v0, _root_.Mi.vS, _root_.Mi.rd0f, _root_.Mi.rd0o, _root_.Mi.rdS, _root_.Mi.iteT, _root_.Mi.iteF, bS_ok, bS_er, bS_no, oNo, sSeq_ap, sSet_ap, sOwn_ap, sExp_ap, sRet_ap, sIf_ap, sNil_ap, eBin_ap, eCall_ap, aCons_ap, aNil_ap, eC_ap, tB_ap, isB_ap, tNot_ap, tAnd_ap, tOr_ap, tTru_ap, _root_.Mi.truB, _root_.Mi.truL, _root_.Mi.truT, _root_.Mi.truI, fn_ap, _root_.Mi.env2, oRt, oNx, oEr, sRaise_ap, _root_.Mi.R.ok_bind, _root_.Mi.R.er_bind, _root_.Mi.R.no_bind, _root_.Mi.R.calm_ok, _root_.Mi.R.calm_no, List.set_cons_zero, List.set_cons_succ, List.length_cons, List.length_nil, List.map_cons, List.map_nil, List.replicate_zero, List.replicate_succ, List.cons_append, List.nil_append, Nat.reduceAdd, Nat.reduceSub, Nat.reduceEqDiff, if_true, if_false, Bool.not_true, Bool.not_false, ite_true, ite_false, reduceIte, Nat.zero_add, eBl_ap, len_L, len_T, lt_I, le_I, gt_I, sFor_ap, iD_ap, itemsL, itemsT, itemsDi, sAug_ap, List.getElem?_cons_succ, List.getElem?_cons_zero, eLst_ap, eTup_ap, mkL_ap, mkT_ap, Nat.reduceLeDiff, frzA_ap, frzA, List.length_map, wipe_nil, wipe_cons, eFz_ap, isL_ap, _root_.Mi.w0, _root_.Mi.w1, add_I, sub_I, eqInt, neInt, within_ok, sAsg_ap, gTp_ap, gsCons_ap, gsNil_ap, gNm_ap, Option.bind_some, frz_ap, frzE, eAnd_ap, eOr_ap, isN_none, isN_list, eIf_ap, iR1_ap, itL0, itL1, itL2, itL3, itL4, itL5, itT0, itT1, itT2, itT3, itT4, itT5, eRep_ap, rep2, rep3, rep4, rep5, rep6, xNil_ap, xF_ap, xO_ap, sPar2_ap, eIsi_ap, many_str, never_str, qJJ]
    · exact (zset_ok (meth_ok (ds := [d]) rfl rfl e)).trans rfl
  rw [z1]
  rfl
theorem lb_jump_er {d : Da} {c1 : Cm} (e : x_Board_jump ⟨.bo, w, ls⟩ [d] = .er "BadJump" c1) : x__law_board ⟨.bo, w, ls⟩ [jD d] = .ok sJ c1 := by
  show outX (y__law_board [.cm ⟨.bo, w, ls⟩, .fz (jD d), .un]) = _
  have z1 : y__law_board [.cm ⟨.bo, w, ls⟩, .fz (jD d), .un] = .rt sJ [.cm c1, .fz (jD d), .fz sJ] := by
    refine zseq_nx (r' := [.cm ⟨.bo, w, ls⟩, .fz (jD d), .fz .none]) rfl ?_
    refine zseq_nx (r' := [.cm c1, .fz (jD d), .fz sJ]) (ztry_er (c := "BadJump") (r' := [.cm c1, .fz (jD d), .fz .none]) (zif_t ?_ ?_) (by decide +kernel) ?_) (zret_ok (xl_ok rfl))
    · simp (config := { decide := false }) only [_root_.Mi.v0, _root_.Mi.vS, _root_.Mi.rd0f, _root_.Mi.rd0o, _root_.Mi.rdS, _root_.Mi.iteT, _root_.Mi.iteF, bS_ok, bS_er, bS_no, oNo, sSeq_ap, sSet_ap, sOwn_ap, sExp_ap, sRet_ap, sIf_ap, sNil_ap, eBin_ap, eCall_ap, aCons_ap, aNil_ap, eC_ap, tB_ap, isB_ap, tNot_ap, tAnd_ap, tOr_ap, tTru_ap, _root_.Mi.truB, _root_.Mi.truL, _root_.Mi.truT, _root_.Mi.truI, fn_ap, _root_.Mi.env2, oRt, oNx, oEr, sRaise_ap, _root_.Mi.R.ok_bind, _root_.Mi.R.er_bind, _root_.Mi.R.no_bind, _root_.Mi.R.calm_ok, _root_.Mi.R.calm_no, List.set_cons_zero, List.set_cons_succ, List.length_cons, List.length_nil, List.map_cons, List.map_nil, List.replicate_zero, List.replicate_succ, List.cons_append, List.nil_append, Nat.reduceAdd, Nat.reduceSub, Nat.reduceEqDiff, if_true, if_false, Bool.not_true, Bool.not_false, ite_true, ite_false, reduceIte, Nat.zero_add, eBl_ap, len_L, len_T, lt_I, le_I, gt_I, sFor_ap, iD_ap, itemsL, itemsT, itemsDi, sAug_ap, List.getElem?_cons_succ, List.getElem?_cons_zero, eLst_ap, eTup_ap, mkL_ap, mkT_ap, Nat.reduceLeDiff, frzA_ap, frzA, List.length_map, wipe_nil, wipe_cons, eFz_ap, isL_ap, _root_.Mi.w0, _root_.Mi.w1, add_I, sub_I, eqInt, neInt, within_ok, sAsg_ap, gTp_ap, gsCons_ap, gsNil_ap, gNm_ap, Option.bind_some, frz_ap, frzE, eAnd_ap, eOr_ap, isN_none, isN_list, eIf_ap, iR1_ap, itL0, itL1, itL2, itL3, itL4, itL5, itT0, itT1, itT2, itT3, itT4, itT5, eRep_ap, rep2, rep3, rep4, rep5, rep6, xNil_ap, xF_ap, xO_ap, sPar2_ap, eIsi_ap, many_str, never_str, qJJ]
    · exact (zset_er (meth_er (ds := [d]) rfl rfl e)).trans rfl
    · unfold hdZ
      rw [if_pos (by decide +kernel)]
      rfl
  rw [z1]
  rfl
theorem lb_back {v : Da} {c1 : Cm} (e : x_Board_back ⟨.bo, w, ls⟩ [] = .ok v c1) : x__law_board ⟨.bo, w, ls⟩ [bD] = .ok v c1 := by
  show outX (y__law_board [.cm ⟨.bo, w, ls⟩, .fz bD, .un]) = _
  have z1 : y__law_board [.cm ⟨.bo, w, ls⟩, .fz bD, .un] = .rt v [.cm c1, .fz bD, .fz v] := by
    refine zseq_nx (r' := [.cm ⟨.bo, w, ls⟩, .fz bD, .fz .none]) rfl ?_
    refine zseq_nx (r' := [.cm c1, .fz bD, .fz v]) (ztry_nx (zif_f ?_ ?_)) (zret_ok (xl_ok rfl))
    · simp (config := { decide := false }) only [_root_.Mi.v0, _root_.Mi.vS, _root_.Mi.rd0f, _root_.Mi.rd0o, _root_.Mi.rdS, _root_.Mi.iteT, _root_.Mi.iteF, bS_ok, bS_er, bS_no, oNo, sSeq_ap, sSet_ap, sOwn_ap, sExp_ap, sRet_ap, sIf_ap, sNil_ap, eBin_ap, eCall_ap, aCons_ap, aNil_ap, eC_ap, tB_ap, isB_ap, tNot_ap, tAnd_ap, tOr_ap, tTru_ap, _root_.Mi.truB, _root_.Mi.truL, _root_.Mi.truT, _root_.Mi.truI, fn_ap, _root_.Mi.env2, oRt, oNx, oEr, sRaise_ap, _root_.Mi.R.ok_bind, _root_.Mi.R.er_bind, _root_.Mi.R.no_bind, _root_.Mi.R.calm_ok, _root_.Mi.R.calm_no, List.set_cons_zero, List.set_cons_succ, List.length_cons, List.length_nil, List.map_cons, List.map_nil, List.replicate_zero, List.replicate_succ, List.cons_append, List.nil_append, Nat.reduceAdd, Nat.reduceSub, Nat.reduceEqDiff, if_true, if_false, Bool.not_true, Bool.not_false, ite_true, ite_false, reduceIte, Nat.zero_add, eBl_ap, len_L, len_T, lt_I, le_I, gt_I, sFor_ap, iD_ap, itemsL, itemsT, itemsDi, sAug_ap, List.getElem?_cons_succ, List.getElem?_cons_zero, eLst_ap, eTup_ap, mkL_ap, mkT_ap, Nat.reduceLeDiff, frzA_ap, frzA, List.length_map, wipe_nil, wipe_cons, eFz_ap, isL_ap, _root_.Mi.w0, _root_.Mi.w1, add_I, sub_I, eqInt, neInt, within_ok, sAsg_ap, gTp_ap, gsCons_ap, gsNil_ap, gNm_ap, Option.bind_some, frz_ap, frzE, eAnd_ap, eOr_ap, isN_none, isN_list, eIf_ap, iR1_ap, itL0, itL1, itL2, itL3, itL4, itL5, itT0, itT1, itT2, itT3, itT4, itT5, eRep_ap, rep2, rep3, rep4, rep5, rep6, xNil_ap, xF_ap, xO_ap, sPar2_ap, eIsi_ap, many_str, never_str, qBJ]
    · refine (zset_ok (xif_t ?_ (meth_ok (ds := []) rfl rfl e))).trans rfl
      simp (config := { decide := false }) only [_root_.Mi.v0, _root_.Mi.vS, _root_.Mi.rd0f, _root_.Mi.rd0o, _root_.Mi.rdS, _root_.Mi.iteT, _root_.Mi.iteF, bS_ok, bS_er, bS_no, oNo, sSeq_ap, sSet_ap, sOwn_ap, sExp_ap, sRet_ap, sIf_ap, sNil_ap, eBin_ap, eCall_ap, aCons_ap, aNil_ap, eC_ap, tB_ap, isB_ap, tNot_ap, tAnd_ap, tOr_ap, tTru_ap, _root_.Mi.truB, _root_.Mi.truL, _root_.Mi.truT, _root_.Mi.truI, fn_ap, _root_.Mi.env2, oRt, oNx, oEr, sRaise_ap, _root_.Mi.R.ok_bind, _root_.Mi.R.er_bind, _root_.Mi.R.no_bind, _root_.Mi.R.calm_ok, _root_.Mi.R.calm_no, List.set_cons_zero, List.set_cons_succ, List.length_cons, List.length_nil, List.map_cons, List.map_nil, List.replicate_zero, List.replicate_succ, List.cons_append, List.nil_append, Nat.reduceAdd, Nat.reduceSub, Nat.reduceEqDiff, if_true, if_false, Bool.not_true, Bool.not_false, ite_true, ite_false, reduceIte, Nat.zero_add, eBl_ap, len_L, len_T, lt_I, le_I, gt_I, sFor_ap, iD_ap, itemsL, itemsT, itemsDi, sAug_ap, List.getElem?_cons_succ, List.getElem?_cons_zero, eLst_ap, eTup_ap, mkL_ap, mkT_ap, Nat.reduceLeDiff, frzA_ap, frzA, List.length_map, wipe_nil, wipe_cons, eFz_ap, isL_ap, _root_.Mi.w0, _root_.Mi.w1, add_I, sub_I, eqInt, neInt, within_ok, sAsg_ap, gTp_ap, gsCons_ap, gsNil_ap, gNm_ap, Option.bind_some, frz_ap, frzE, eAnd_ap, eOr_ap, isN_none, isN_list, eIf_ap, iR1_ap, itL0, itL1, itL2, itL3, itL4, itL5, itT0, itT1, itT2, itT3, itT4, itT5, eRep_ap, rep2, rep3, rep4, rep5, rep6, xNil_ap, xF_ap, xO_ap, sPar2_ap, eIsi_ap, many_str, never_str, qBB]
  rw [z1]
  rfl
theorem lb_again {v : Da} {c1 : Cm} (e : x_Board_again ⟨.bo, w, ls⟩ [] = .ok v c1) : x__law_board ⟨.bo, w, ls⟩ [aD] = .ok v c1 := by
  show outX (y__law_board [.cm ⟨.bo, w, ls⟩, .fz aD, .un]) = _
  have z1 : y__law_board [.cm ⟨.bo, w, ls⟩, .fz aD, .un] = .rt v [.cm c1, .fz aD, .fz v] := by
    refine zseq_nx (r' := [.cm ⟨.bo, w, ls⟩, .fz aD, .fz .none]) rfl ?_
    refine zseq_nx (r' := [.cm c1, .fz aD, .fz v]) (ztry_nx (zif_f ?_ ?_)) (zret_ok (xl_ok rfl))
    · simp (config := { decide := false }) only [_root_.Mi.v0, _root_.Mi.vS, _root_.Mi.rd0f, _root_.Mi.rd0o, _root_.Mi.rdS, _root_.Mi.iteT, _root_.Mi.iteF, bS_ok, bS_er, bS_no, oNo, sSeq_ap, sSet_ap, sOwn_ap, sExp_ap, sRet_ap, sIf_ap, sNil_ap, eBin_ap, eCall_ap, aCons_ap, aNil_ap, eC_ap, tB_ap, isB_ap, tNot_ap, tAnd_ap, tOr_ap, tTru_ap, _root_.Mi.truB, _root_.Mi.truL, _root_.Mi.truT, _root_.Mi.truI, fn_ap, _root_.Mi.env2, oRt, oNx, oEr, sRaise_ap, _root_.Mi.R.ok_bind, _root_.Mi.R.er_bind, _root_.Mi.R.no_bind, _root_.Mi.R.calm_ok, _root_.Mi.R.calm_no, List.set_cons_zero, List.set_cons_succ, List.length_cons, List.length_nil, List.map_cons, List.map_nil, List.replicate_zero, List.replicate_succ, List.cons_append, List.nil_append, Nat.reduceAdd, Nat.reduceSub, Nat.reduceEqDiff, if_true, if_false, Bool.not_true, Bool.not_false, ite_true, ite_false, reduceIte, Nat.zero_add, eBl_ap, len_L, len_T, lt_I, le_I, gt_I, sFor_ap, iD_ap, itemsL, itemsT, itemsDi, sAug_ap, List.getElem?_cons_succ, List.getElem?_cons_zero, eLst_ap, eTup_ap, mkL_ap, mkT_ap, Nat.reduceLeDiff, frzA_ap, frzA, List.length_map, wipe_nil, wipe_cons, eFz_ap, isL_ap, _root_.Mi.w0, _root_.Mi.w1, add_I, sub_I, eqInt, neInt, within_ok, sAsg_ap, gTp_ap, gsCons_ap, gsNil_ap, gNm_ap, Option.bind_some, frz_ap, frzE, eAnd_ap, eOr_ap, isN_none, isN_list, eIf_ap, iR1_ap, itL0, itL1, itL2, itL3, itL4, itL5, itT0, itT1, itT2, itT3, itT4, itT5, eRep_ap, rep2, rep3, rep4, rep5, rep6, xNil_ap, xF_ap, xO_ap, sPar2_ap, eIsi_ap, many_str, never_str, qAJ]
    · refine (zset_ok (xif_f ?_ (meth_ok (ds := []) rfl rfl e))).trans rfl
      simp (config := { decide := false }) only [_root_.Mi.v0, _root_.Mi.vS, _root_.Mi.rd0f, _root_.Mi.rd0o, _root_.Mi.rdS, _root_.Mi.iteT, _root_.Mi.iteF, bS_ok, bS_er, bS_no, oNo, sSeq_ap, sSet_ap, sOwn_ap, sExp_ap, sRet_ap, sIf_ap, sNil_ap, eBin_ap, eCall_ap, aCons_ap, aNil_ap, eC_ap, tB_ap, isB_ap, tNot_ap, tAnd_ap, tOr_ap, tTru_ap, _root_.Mi.truB, _root_.Mi.truL, _root_.Mi.truT, _root_.Mi.truI, fn_ap, _root_.Mi.env2, oRt, oNx, oEr, sRaise_ap, _root_.Mi.R.ok_bind, _root_.Mi.R.er_bind, _root_.Mi.R.no_bind, _root_.Mi.R.calm_ok, _root_.Mi.R.calm_no, List.set_cons_zero, List.set_cons_succ, List.length_cons, List.length_nil, List.map_cons, List.map_nil, List.replicate_zero, List.replicate_succ, List.cons_append, List.nil_append, Nat.reduceAdd, Nat.reduceSub, Nat.reduceEqDiff, if_true, if_false, Bool.not_true, Bool.not_false, ite_true, ite_false, reduceIte, Nat.zero_add, eBl_ap, len_L, len_T, lt_I, le_I, gt_I, sFor_ap, iD_ap, itemsL, itemsT, itemsDi, sAug_ap, List.getElem?_cons_succ, List.getElem?_cons_zero, eLst_ap, eTup_ap, mkL_ap, mkT_ap, Nat.reduceLeDiff, frzA_ap, frzA, List.length_map, wipe_nil, wipe_cons, eFz_ap, isL_ap, _root_.Mi.w0, _root_.Mi.w1, add_I, sub_I, eqInt, neInt, within_ok, sAsg_ap, gTp_ap, gsCons_ap, gsNil_ap, gNm_ap, Option.bind_some, frz_ap, frzE, eAnd_ap, eOr_ap, isN_none, isN_list, eIf_ap, iR1_ap, itL0, itL1, itL2, itL3, itL4, itL5, itT0, itT1, itT2, itT3, itT4, itT5, eRep_ap, rep2, rep3, rep4, rep5, rep6, xNil_ap, xF_ap, xO_ap, sPar2_ap, eIsi_ap, many_str, never_str, qAB]
  rw [z1]
  rfl
theorem lb_back_er {c1 : Cm} (e : x_Board_back ⟨.bo, w, ls⟩ [] = .er "Nothing" c1) : x__law_board ⟨.bo, w, ls⟩ [bD] = .ok sNt c1 := by
  show outX (y__law_board [.cm ⟨.bo, w, ls⟩, .fz bD, .un]) = _
  have z1 : y__law_board [.cm ⟨.bo, w, ls⟩, .fz bD, .un] = .rt sNt [.cm c1, .fz bD, .fz sNt] := by
    refine zseq_nx (r' := [.cm ⟨.bo, w, ls⟩, .fz bD, .fz .none]) rfl ?_
    refine zseq_nx (r' := [.cm c1, .fz bD, .fz sNt]) (ztry_er (c := "Nothing") (r' := [.cm c1, .fz bD, .fz .none]) (zif_f ?_ ?_) (by decide +kernel) ?_) (zret_ok (xl_ok rfl))
    · simp (config := { decide := false }) only [_root_.Mi.v0, _root_.Mi.vS, _root_.Mi.rd0f, _root_.Mi.rd0o, _root_.Mi.rdS, _root_.Mi.iteT, _root_.Mi.iteF, bS_ok, bS_er, bS_no, oNo, sSeq_ap, sSet_ap, sOwn_ap, sExp_ap, sRet_ap, sIf_ap, sNil_ap, eBin_ap, eCall_ap, aCons_ap, aNil_ap, eC_ap, tB_ap, isB_ap, tNot_ap, tAnd_ap, tOr_ap, tTru_ap, _root_.Mi.truB, _root_.Mi.truL, _root_.Mi.truT, _root_.Mi.truI, fn_ap, _root_.Mi.env2, oRt, oNx, oEr, sRaise_ap, _root_.Mi.R.ok_bind, _root_.Mi.R.er_bind, _root_.Mi.R.no_bind, _root_.Mi.R.calm_ok, _root_.Mi.R.calm_no, List.set_cons_zero, List.set_cons_succ, List.length_cons, List.length_nil, List.map_cons, List.map_nil, List.replicate_zero, List.replicate_succ, List.cons_append, List.nil_append, Nat.reduceAdd, Nat.reduceSub, Nat.reduceEqDiff, if_true, if_false, Bool.not_true, Bool.not_false, ite_true, ite_false, reduceIte, Nat.zero_add, eBl_ap, len_L, len_T, lt_I, le_I, gt_I, sFor_ap, iD_ap, itemsL, itemsT, itemsDi, sAug_ap, List.getElem?_cons_succ, List.getElem?_cons_zero, eLst_ap, eTup_ap, mkL_ap, mkT_ap, Nat.reduceLeDiff, frzA_ap, frzA, List.length_map, wipe_nil, wipe_cons, eFz_ap, isL_ap, _root_.Mi.w0, _root_.Mi.w1, add_I, sub_I, eqInt, neInt, within_ok, sAsg_ap, gTp_ap, gsCons_ap, gsNil_ap, gNm_ap, Option.bind_some, frz_ap, frzE, eAnd_ap, eOr_ap, isN_none, isN_list, eIf_ap, iR1_ap, itL0, itL1, itL2, itL3, itL4, itL5, itT0, itT1, itT2, itT3, itT4, itT5, eRep_ap, rep2, rep3, rep4, rep5, rep6, xNil_ap, xF_ap, xO_ap, sPar2_ap, eIsi_ap, many_str, never_str, qBJ]
    · refine (zset_er (xif_t ?_ (meth_er (ds := []) rfl rfl e))).trans rfl
      simp (config := { decide := false }) only [_root_.Mi.v0, _root_.Mi.vS, _root_.Mi.rd0f, _root_.Mi.rd0o, _root_.Mi.rdS, _root_.Mi.iteT, _root_.Mi.iteF, bS_ok, bS_er, bS_no, oNo, sSeq_ap, sSet_ap, sOwn_ap, sExp_ap, sRet_ap, sIf_ap, sNil_ap, eBin_ap, eCall_ap, aCons_ap, aNil_ap, eC_ap, tB_ap, isB_ap, tNot_ap, tAnd_ap, tOr_ap, tTru_ap, _root_.Mi.truB, _root_.Mi.truL, _root_.Mi.truT, _root_.Mi.truI, fn_ap, _root_.Mi.env2, oRt, oNx, oEr, sRaise_ap, _root_.Mi.R.ok_bind, _root_.Mi.R.er_bind, _root_.Mi.R.no_bind, _root_.Mi.R.calm_ok, _root_.Mi.R.calm_no, List.set_cons_zero, List.set_cons_succ, List.length_cons, List.length_nil, List.map_cons, List.map_nil, List.replicate_zero, List.replicate_succ, List.cons_append, List.nil_append, Nat.reduceAdd, Nat.reduceSub, Nat.reduceEqDiff, if_true, if_false, Bool.not_true, Bool.not_false, ite_true, ite_false, reduceIte, Nat.zero_add, eBl_ap, len_L, len_T, lt_I, le_I, gt_I, sFor_ap, iD_ap, itemsL, itemsT, itemsDi, sAug_ap, List.getElem?_cons_succ, List.getElem?_cons_zero, eLst_ap, eTup_ap, mkL_ap, mkT_ap, Nat.reduceLeDiff, frzA_ap, frzA, List.length_map, wipe_nil, wipe_cons, eFz_ap, isL_ap, _root_.Mi.w0, _root_.Mi.w1, add_I, sub_I, eqInt, neInt, within_ok, sAsg_ap, gTp_ap, gsCons_ap, gsNil_ap, gNm_ap, Option.bind_some, frz_ap, frzE, eAnd_ap, eOr_ap, isN_none, isN_list, eIf_ap, iR1_ap, itL0, itL1, itL2, itL3, itL4, itL5, itT0, itT1, itT2, itT3, itT4, itT5, eRep_ap, rep2, rep3, rep4, rep5, rep6, xNil_ap, xF_ap, xO_ap, sPar2_ap, eIsi_ap, many_str, never_str, qBB]
    · unfold hdZ
      rw [if_neg (by decide +kernel)]
      unfold hdZ
      rw [if_pos (by decide +kernel)]
      rfl
  rw [z1]
  rfl
theorem lb_again_er {c1 : Cm} (e : x_Board_again ⟨.bo, w, ls⟩ [] = .er "Nothing" c1) : x__law_board ⟨.bo, w, ls⟩ [aD] = .ok sNt c1 := by
  show outX (y__law_board [.cm ⟨.bo, w, ls⟩, .fz aD, .un]) = _
  have z1 : y__law_board [.cm ⟨.bo, w, ls⟩, .fz aD, .un] = .rt sNt [.cm c1, .fz aD, .fz sNt] := by
    refine zseq_nx (r' := [.cm ⟨.bo, w, ls⟩, .fz aD, .fz .none]) rfl ?_
    refine zseq_nx (r' := [.cm c1, .fz aD, .fz sNt]) (ztry_er (c := "Nothing") (r' := [.cm c1, .fz aD, .fz .none]) (zif_f ?_ ?_) (by decide +kernel) ?_) (zret_ok (xl_ok rfl))
    · simp (config := { decide := false }) only [_root_.Mi.v0, _root_.Mi.vS, _root_.Mi.rd0f, _root_.Mi.rd0o, _root_.Mi.rdS, _root_.Mi.iteT, _root_.Mi.iteF, bS_ok, bS_er, bS_no, oNo, sSeq_ap, sSet_ap, sOwn_ap, sExp_ap, sRet_ap, sIf_ap, sNil_ap, eBin_ap, eCall_ap, aCons_ap, aNil_ap, eC_ap, tB_ap, isB_ap, tNot_ap, tAnd_ap, tOr_ap, tTru_ap, _root_.Mi.truB, _root_.Mi.truL, _root_.Mi.truT, _root_.Mi.truI, fn_ap, _root_.Mi.env2, oRt, oNx, oEr, sRaise_ap, _root_.Mi.R.ok_bind, _root_.Mi.R.er_bind, _root_.Mi.R.no_bind, _root_.Mi.R.calm_ok, _root_.Mi.R.calm_no, List.set_cons_zero, List.set_cons_succ, List.length_cons, List.length_nil, List.map_cons, List.map_nil, List.replicate_zero, List.replicate_succ, List.cons_append, List.nil_append, Nat.reduceAdd, Nat.reduceSub, Nat.reduceEqDiff, if_true, if_false, Bool.not_true, Bool.not_false, ite_true, ite_false, reduceIte, Nat.zero_add, eBl_ap, len_L, len_T, lt_I, le_I, gt_I, sFor_ap, iD_ap, itemsL, itemsT, itemsDi, sAug_ap, List.getElem?_cons_succ, List.getElem?_cons_zero, eLst_ap, eTup_ap, mkL_ap, mkT_ap, Nat.reduceLeDiff, frzA_ap, frzA, List.length_map, wipe_nil, wipe_cons, eFz_ap, isL_ap, _root_.Mi.w0, _root_.Mi.w1, add_I, sub_I, eqInt, neInt, within_ok, sAsg_ap, gTp_ap, gsCons_ap, gsNil_ap, gNm_ap, Option.bind_some, frz_ap, frzE, eAnd_ap, eOr_ap, isN_none, isN_list, eIf_ap, iR1_ap, itL0, itL1, itL2, itL3, itL4, itL5, itT0, itT1, itT2, itT3, itT4, itT5, eRep_ap, rep2, rep3, rep4, rep5, rep6, xNil_ap, xF_ap, xO_ap, sPar2_ap, eIsi_ap, many_str, never_str, qAJ]
    · refine (zset_er (xif_f ?_ (meth_er (ds := []) rfl rfl e))).trans rfl
      simp (config := { decide := false }) only [_root_.Mi.v0, _root_.Mi.vS, _root_.Mi.rd0f, _root_.Mi.rd0o, _root_.Mi.rdS, _root_.Mi.iteT, _root_.Mi.iteF, bS_ok, bS_er, bS_no, oNo, sSeq_ap, sSet_ap, sOwn_ap, sExp_ap, sRet_ap, sIf_ap, sNil_ap, eBin_ap, eCall_ap, aCons_ap, aNil_ap, eC_ap, tB_ap, isB_ap, tNot_ap, tAnd_ap, tOr_ap, tTru_ap, _root_.Mi.truB, _root_.Mi.truL, _root_.Mi.truT, _root_.Mi.truI, fn_ap, _root_.Mi.env2, oRt, oNx, oEr, sRaise_ap, _root_.Mi.R.ok_bind, _root_.Mi.R.er_bind, _root_.Mi.R.no_bind, _root_.Mi.R.calm_ok, _root_.Mi.R.calm_no, List.set_cons_zero, List.set_cons_succ, List.length_cons, List.length_nil, List.map_cons, List.map_nil, List.replicate_zero, List.replicate_succ, List.cons_append, List.nil_append, Nat.reduceAdd, Nat.reduceSub, Nat.reduceEqDiff, if_true, if_false, Bool.not_true, Bool.not_false, ite_true, ite_false, reduceIte, Nat.zero_add, eBl_ap, len_L, len_T, lt_I, le_I, gt_I, sFor_ap, iD_ap, itemsL, itemsT, itemsDi, sAug_ap, List.getElem?_cons_succ, List.getElem?_cons_zero, eLst_ap, eTup_ap, mkL_ap, mkT_ap, Nat.reduceLeDiff, frzA_ap, frzA, List.length_map, wipe_nil, wipe_cons, eFz_ap, isL_ap, _root_.Mi.w0, _root_.Mi.w1, add_I, sub_I, eqInt, neInt, within_ok, sAsg_ap, gTp_ap, gsCons_ap, gsNil_ap, gNm_ap, Option.bind_some, frz_ap, frzE, eAnd_ap, eOr_ap, isN_none, isN_list, eIf_ap, iR1_ap, itL0, itL1, itL2, itL3, itL4, itL5, itT0, itT1, itT2, itT3, itT4, itT5, eRep_ap, rep2, rep3, rep4, rep5, rep6, xNil_ap, xF_ap, xO_ap, sPar2_ap, eIsi_ap, many_str, never_str, qAB]
    · unfold hdZ
      rw [if_neg (by decide +kernel)]
      unfold hdZ
      rw [if_pos (by decide +kernel)]
      rfl
  rw [z1]
  rfl
end
abbrev dsC (R N U : List Da) : Cm := ⟨.st, .none, [R, N, U]⟩
theorem pop_ok {r : Env} {i : Nat} {l : List Da} {d : Da} (h : r[i]? = some (.ow (.list (l ++ [d])))) : xPop i r = .ok d (r.set i (.ow (.list l))) := by
  unfold xPop
  rw [h]
  simp only [List.getLast?_concat, List.dropLast_concat]
theorem app_ok {r : Env} {i : Nat} {l : List Da} {d : Da} {f : Env → R Da} (h : r[i]? = some (.ow (.list l))) (h2 : f r = .ok d) (hl : l.length < 100000) : xApp i f r = .ok .none (r.set i (.ow (.list (l ++ [d])))) := by
  unfold xApp
  rw [h]
  dsimp only
  rw [h2]
  show (if l.length < 100000 then _ else _) = _
  rw [if_pos hl]
theorem move_ok {r : Env} {a b : Nat} {la lb : List Da} {d : Da} (h : r[a]? = some (.ow (.list la))) (h2 : r[b]? = some (.ow (.list (lb ++ [d])))) (hl : la.length < 100000) : xMove a b r = .ok .none ((r.set b (.ow (.list lb))).set a (.ow (.list (la ++ [d])))) := by
  unfold xMove
  rw [h, h2]
  simp only [List.getLast?_concat, List.dropLast_concat]
  rw [if_pos hl]
section
variable {w : Wd} (h : WOk w) {t : Std} (ht : t.length = w.n)
theorem eqN0 (l : List Nat) : dEq (.list (l.map encN)) (.list []) = .ok (.bool (decide (l = []))) := ((EqE.N 7).L).deq (by decide) l []
theorem sb_back_no {R U : List Da} {W : Da} : x__law_boarded (dsC R [] U) [W, bD] = .ok sNt (dsC R [] U) := by
  show outT .none (y__law_boarded (envT W bD R [] U)) = _
  have q : dEq (.list []) (.list []) = .ok (.bool true) := by kernel_rfl
  have z1 : y__law_boarded (envT W bD R [] U) = .rt sNt (envT W bD R [] U) := by
    refine zseq_rt (zif_t ?_ (zseq_rt (zif_t ?_ rfl)))
    · simp (config := { decide := false }) only [_root_.Mi.v0, _root_.Mi.vS, _root_.Mi.rd0f, _root_.Mi.rd0o, _root_.Mi.rdS, _root_.Mi.iteT, _root_.Mi.iteF, bS_ok, bS_er, bS_no, oNo, sSeq_ap, sSet_ap, sOwn_ap, sExp_ap, sRet_ap, sIf_ap, sNil_ap, eBin_ap, eCall_ap, aCons_ap, aNil_ap, eC_ap, tB_ap, isB_ap, tNot_ap, tAnd_ap, tOr_ap, tTru_ap, _root_.Mi.truB, _root_.Mi.truL, _root_.Mi.truT, _root_.Mi.truI, fn_ap, _root_.Mi.env2, oRt, oNx, oEr, sRaise_ap, _root_.Mi.R.ok_bind, _root_.Mi.R.er_bind, _root_.Mi.R.no_bind, _root_.Mi.R.calm_ok, _root_.Mi.R.calm_no, List.set_cons_zero, List.set_cons_succ, List.length_cons, List.length_nil, List.map_cons, List.map_nil, List.replicate_zero, List.replicate_succ, List.cons_append, List.nil_append, Nat.reduceAdd, Nat.reduceSub, Nat.reduceEqDiff, if_true, if_false, Bool.not_true, Bool.not_false, ite_true, ite_false, reduceIte, Nat.zero_add, eBl_ap, len_L, len_T, lt_I, le_I, gt_I, sFor_ap, iD_ap, itemsL, itemsT, itemsDi, sAug_ap, List.getElem?_cons_succ, List.getElem?_cons_zero, eLst_ap, eTup_ap, mkL_ap, mkT_ap, Nat.reduceLeDiff, frzA_ap, frzA, List.length_map, wipe_nil, wipe_cons, eFz_ap, isL_ap, _root_.Mi.w0, _root_.Mi.w1, add_I, sub_I, eqInt, neInt, within_ok, sAsg_ap, gTp_ap, gsCons_ap, gsNil_ap, gNm_ap, Option.bind_some, frz_ap, frzE, eAnd_ap, eOr_ap, isN_none, isN_list, eIf_ap, iR1_ap, itL0, itL1, itL2, itL3, itL4, itL5, itT0, itT1, itT2, itT3, itT4, itT5, eRep_ap, rep2, rep3, rep4, rep5, rep6, xNil_ap, xF_ap, xO_ap, sPar2_ap, eIsi_ap, many_str, never_str, envT, qBB]
    · simp (config := { decide := false }) only [_root_.Mi.v0, _root_.Mi.vS, _root_.Mi.rd0f, _root_.Mi.rd0o, _root_.Mi.rdS, _root_.Mi.iteT, _root_.Mi.iteF, bS_ok, bS_er, bS_no, oNo, sSeq_ap, sSet_ap, sOwn_ap, sExp_ap, sRet_ap, sIf_ap, sNil_ap, eBin_ap, eCall_ap, aCons_ap, aNil_ap, eC_ap, tB_ap, isB_ap, tNot_ap, tAnd_ap, tOr_ap, tTru_ap, _root_.Mi.truB, _root_.Mi.truL, _root_.Mi.truT, _root_.Mi.truI, fn_ap, _root_.Mi.env2, oRt, oNx, oEr, sRaise_ap, _root_.Mi.R.ok_bind, _root_.Mi.R.er_bind, _root_.Mi.R.no_bind, _root_.Mi.R.calm_ok, _root_.Mi.R.calm_no, List.set_cons_zero, List.set_cons_succ, List.length_cons, List.length_nil, List.map_cons, List.map_nil, List.replicate_zero, List.replicate_succ, List.cons_append, List.nil_append, Nat.reduceAdd, Nat.reduceSub, Nat.reduceEqDiff, if_true, if_false, Bool.not_true, Bool.not_false, ite_true, ite_false, reduceIte, Nat.zero_add, eBl_ap, len_L, len_T, lt_I, le_I, gt_I, sFor_ap, iD_ap, itemsL, itemsT, itemsDi, sAug_ap, List.getElem?_cons_succ, List.getElem?_cons_zero, eLst_ap, eTup_ap, mkL_ap, mkT_ap, Nat.reduceLeDiff, frzA_ap, frzA, List.length_map, wipe_nil, wipe_cons, eFz_ap, isL_ap, _root_.Mi.w0, _root_.Mi.w1, add_I, sub_I, eqInt, neInt, within_ok, sAsg_ap, gTp_ap, gsCons_ap, gsNil_ap, gNm_ap, Option.bind_some, frz_ap, frzE, eAnd_ap, eOr_ap, isN_none, isN_list, eIf_ap, iR1_ap, itL0, itL1, itL2, itL3, itL4, itL5, itT0, itT1, itT2, itT3, itT4, itT5, eRep_ap, rep2, rep3, rep4, rep5, rep6, xNil_ap, xF_ap, xO_ap, sPar2_ap, eIsi_ap, many_str, never_str, envT, q]
  rw [z1]
  rfl
theorem sb_back {R U : List Da} {ns : List Nat} {n : Nat} {s W : Da} (hU : U.length < 1000) : x__law_boarded (dsC (R ++ [s]) ((ns ++ [n]).map encN) U) [W, bD] = .ok (encN n) (dsC R (ns.map encN) (U ++ [encN n])) := by
  show outT .none (y__law_boarded (envT W bD (R ++ [s]) ((ns ++ [n]).map encN) U)) = _
  have q := eqN0 (ns ++ [n])
  rw [decide_eq_false (by simp)] at q
  have l2 := lastD U (encN n)
  have z1 : y__law_boarded (envT W bD (R ++ [s]) ((ns ++ [n]).map encN) U) = .rt (encN n) (envT W bD R (ns.map encN) (U ++ [encN n])) := by
    refine zseq_rt (zif_t ?_ ?_)
    · simp (config := { decide := false }) only [_root_.Mi.v0, _root_.Mi.vS, _root_.Mi.rd0f, _root_.Mi.rd0o, _root_.Mi.rdS, _root_.Mi.iteT, _root_.Mi.iteF, bS_ok, bS_er, bS_no, oNo, sSeq_ap, sSet_ap, sOwn_ap, sExp_ap, sRet_ap, sIf_ap, sNil_ap, eBin_ap, eCall_ap, aCons_ap, aNil_ap, eC_ap, tB_ap, isB_ap, tNot_ap, tAnd_ap, tOr_ap, tTru_ap, _root_.Mi.truB, _root_.Mi.truL, _root_.Mi.truT, _root_.Mi.truI, fn_ap, _root_.Mi.env2, oRt, oNx, oEr, sRaise_ap, _root_.Mi.R.ok_bind, _root_.Mi.R.er_bind, _root_.Mi.R.no_bind, _root_.Mi.R.calm_ok, _root_.Mi.R.calm_no, List.set_cons_zero, List.set_cons_succ, List.length_cons, List.length_nil, List.map_cons, List.map_nil, List.replicate_zero, List.replicate_succ, List.cons_append, List.nil_append, Nat.reduceAdd, Nat.reduceSub, Nat.reduceEqDiff, if_true, if_false, Bool.not_true, Bool.not_false, ite_true, ite_false, reduceIte, Nat.zero_add, eBl_ap, len_L, len_T, lt_I, le_I, gt_I, sFor_ap, iD_ap, itemsL, itemsT, itemsDi, sAug_ap, List.getElem?_cons_succ, List.getElem?_cons_zero, eLst_ap, eTup_ap, mkL_ap, mkT_ap, Nat.reduceLeDiff, frzA_ap, frzA, List.length_map, wipe_nil, wipe_cons, eFz_ap, isL_ap, _root_.Mi.w0, _root_.Mi.w1, add_I, sub_I, eqInt, neInt, within_ok, sAsg_ap, gTp_ap, gsCons_ap, gsNil_ap, gNm_ap, Option.bind_some, frz_ap, frzE, eAnd_ap, eOr_ap, isN_none, isN_list, eIf_ap, iR1_ap, itL0, itL1, itL2, itL3, itL4, itL5, itT0, itT1, itT2, itT3, itT4, itT5, eRep_ap, rep2, rep3, rep4, rep5, rep6, xNil_ap, xF_ap, xO_ap, sPar2_ap, eIsi_ap, many_str, never_str, envT, qBB]
    refine zseq_nx (r' := envT W bD (R ++ [s]) ((ns ++ [n]).map encN) U) (zif_f ?_ rfl) ?_
    · simp (config := { decide := false }) only [_root_.Mi.v0, _root_.Mi.vS, _root_.Mi.rd0f, _root_.Mi.rd0o, _root_.Mi.rdS, _root_.Mi.iteT, _root_.Mi.iteF, bS_ok, bS_er, bS_no, oNo, sSeq_ap, sSet_ap, sOwn_ap, sExp_ap, sRet_ap, sIf_ap, sNil_ap, eBin_ap, eCall_ap, aCons_ap, aNil_ap, eC_ap, tB_ap, isB_ap, tNot_ap, tAnd_ap, tOr_ap, tTru_ap, _root_.Mi.truB, _root_.Mi.truL, _root_.Mi.truT, _root_.Mi.truI, fn_ap, _root_.Mi.env2, oRt, oNx, oEr, sRaise_ap, _root_.Mi.R.ok_bind, _root_.Mi.R.er_bind, _root_.Mi.R.no_bind, _root_.Mi.R.calm_ok, _root_.Mi.R.calm_no, List.set_cons_zero, List.set_cons_succ, List.length_cons, List.length_nil, List.map_cons, List.map_nil, List.replicate_zero, List.replicate_succ, List.cons_append, List.nil_append, Nat.reduceAdd, Nat.reduceSub, Nat.reduceEqDiff, if_true, if_false, Bool.not_true, Bool.not_false, ite_true, ite_false, reduceIte, Nat.zero_add, eBl_ap, len_L, len_T, lt_I, le_I, gt_I, sFor_ap, iD_ap, itemsL, itemsT, itemsDi, sAug_ap, List.getElem?_cons_succ, List.getElem?_cons_zero, eLst_ap, eTup_ap, mkL_ap, mkT_ap, Nat.reduceLeDiff, frzA_ap, frzA, List.length_map, wipe_nil, wipe_cons, eFz_ap, isL_ap, _root_.Mi.w0, _root_.Mi.w1, add_I, sub_I, eqInt, neInt, within_ok, sAsg_ap, gTp_ap, gsCons_ap, gsNil_ap, gNm_ap, Option.bind_some, frz_ap, frzE, eAnd_ap, eOr_ap, isN_none, isN_list, eIf_ap, iR1_ap, itL0, itL1, itL2, itL3, itL4, itL5, itT0, itT1, itT2, itT3, itT4, itT5, eRep_ap, rep2, rep3, rep4, rep5, rep6, xNil_ap, xF_ap, xO_ap, sPar2_ap, eIsi_ap, many_str, never_str, envT, q]
    refine zseq_nx (r' := envT W bD R ((ns ++ [n]).map encN) U) (zexp_ok (d := s) ((pop_ok (l := R) rfl).trans rfl)) ?_
    refine zseq_nx (r' := envT W bD R (ns.map encN) (U ++ [encN n])) (zexp_ok (d := .none) ((move_ok (la := U) (lb := ns.map encN) (d := encN n) rfl (by rw [List.map_append]; rfl) (by omega)).trans rfl)) ?_
    refine zret_ok (xl_ok ?_)
    simp (config := { decide := false }) only [_root_.Mi.v0, _root_.Mi.vS, _root_.Mi.rd0f, _root_.Mi.rd0o, _root_.Mi.rdS, _root_.Mi.iteT, _root_.Mi.iteF, bS_ok, bS_er, bS_no, oNo, sSeq_ap, sSet_ap, sOwn_ap, sExp_ap, sRet_ap, sIf_ap, sNil_ap, eBin_ap, eCall_ap, aCons_ap, aNil_ap, eC_ap, tB_ap, isB_ap, tNot_ap, tAnd_ap, tOr_ap, tTru_ap, _root_.Mi.truB, _root_.Mi.truL, _root_.Mi.truT, _root_.Mi.truI, fn_ap, _root_.Mi.env2, oRt, oNx, oEr, sRaise_ap, _root_.Mi.R.ok_bind, _root_.Mi.R.er_bind, _root_.Mi.R.no_bind, _root_.Mi.R.calm_ok, _root_.Mi.R.calm_no, List.set_cons_zero, List.set_cons_succ, List.length_cons, List.length_nil, List.map_cons, List.map_nil, List.replicate_zero, List.replicate_succ, List.cons_append, List.nil_append, Nat.reduceAdd, Nat.reduceSub, Nat.reduceEqDiff, if_true, if_false, Bool.not_true, Bool.not_false, ite_true, ite_false, reduceIte, Nat.zero_add, eBl_ap, len_L, len_T, lt_I, le_I, gt_I, sFor_ap, iD_ap, itemsL, itemsT, itemsDi, sAug_ap, List.getElem?_cons_succ, List.getElem?_cons_zero, eLst_ap, eTup_ap, mkL_ap, mkT_ap, Nat.reduceLeDiff, frzA_ap, frzA, List.length_map, wipe_nil, wipe_cons, eFz_ap, isL_ap, _root_.Mi.w0, _root_.Mi.w1, add_I, sub_I, eqInt, neInt, within_ok, sAsg_ap, gTp_ap, gsCons_ap, gsNil_ap, gNm_ap, Option.bind_some, frz_ap, frzE, eAnd_ap, eOr_ap, isN_none, isN_list, eIf_ap, iR1_ap, itL0, itL1, itL2, itL3, itL4, itL5, itT0, itT1, itT2, itT3, itT4, itT5, eRep_ap, rep2, rep3, rep4, rep5, rep6, xNil_ap, xF_ap, xO_ap, sPar2_ap, eIsi_ap, many_str, never_str, envT, ng1, l2]
  rw [z1]
  rfl
theorem sb_again_no {R N : List Da} {W : Da} : x__law_boarded (dsC R N []) [W, aD] = .ok sNt (dsC R N []) := by
  show outT .none (y__law_boarded (envT W aD R N [])) = _
  have q : dEq (.list []) (.list []) = .ok (.bool true) := by kernel_rfl
  have z1 : y__law_boarded (envT W aD R N []) = .rt sNt (envT W aD R N []) := by
    refine zseq_nx (r' := envT W aD R N []) (zif_f ?_ rfl) (zseq_rt (zif_t ?_ rfl))
    · simp (config := { decide := false }) only [_root_.Mi.v0, _root_.Mi.vS, _root_.Mi.rd0f, _root_.Mi.rd0o, _root_.Mi.rdS, _root_.Mi.iteT, _root_.Mi.iteF, bS_ok, bS_er, bS_no, oNo, sSeq_ap, sSet_ap, sOwn_ap, sExp_ap, sRet_ap, sIf_ap, sNil_ap, eBin_ap, eCall_ap, aCons_ap, aNil_ap, eC_ap, tB_ap, isB_ap, tNot_ap, tAnd_ap, tOr_ap, tTru_ap, _root_.Mi.truB, _root_.Mi.truL, _root_.Mi.truT, _root_.Mi.truI, fn_ap, _root_.Mi.env2, oRt, oNx, oEr, sRaise_ap, _root_.Mi.R.ok_bind, _root_.Mi.R.er_bind, _root_.Mi.R.no_bind, _root_.Mi.R.calm_ok, _root_.Mi.R.calm_no, List.set_cons_zero, List.set_cons_succ, List.length_cons, List.length_nil, List.map_cons, List.map_nil, List.replicate_zero, List.replicate_succ, List.cons_append, List.nil_append, Nat.reduceAdd, Nat.reduceSub, Nat.reduceEqDiff, if_true, if_false, Bool.not_true, Bool.not_false, ite_true, ite_false, reduceIte, Nat.zero_add, eBl_ap, len_L, len_T, lt_I, le_I, gt_I, sFor_ap, iD_ap, itemsL, itemsT, itemsDi, sAug_ap, List.getElem?_cons_succ, List.getElem?_cons_zero, eLst_ap, eTup_ap, mkL_ap, mkT_ap, Nat.reduceLeDiff, frzA_ap, frzA, List.length_map, wipe_nil, wipe_cons, eFz_ap, isL_ap, _root_.Mi.w0, _root_.Mi.w1, add_I, sub_I, eqInt, neInt, within_ok, sAsg_ap, gTp_ap, gsCons_ap, gsNil_ap, gNm_ap, Option.bind_some, frz_ap, frzE, eAnd_ap, eOr_ap, isN_none, isN_list, eIf_ap, iR1_ap, itL0, itL1, itL2, itL3, itL4, itL5, itT0, itT1, itT2, itT3, itT4, itT5, eRep_ap, rep2, rep3, rep4, rep5, rep6, xNil_ap, xF_ap, xO_ap, sPar2_ap, eIsi_ap, many_str, never_str, envT, qAB]
    · simp (config := { decide := false }) only [_root_.Mi.v0, _root_.Mi.vS, _root_.Mi.rd0f, _root_.Mi.rd0o, _root_.Mi.rdS, _root_.Mi.iteT, _root_.Mi.iteF, bS_ok, bS_er, bS_no, oNo, sSeq_ap, sSet_ap, sOwn_ap, sExp_ap, sRet_ap, sIf_ap, sNil_ap, eBin_ap, eCall_ap, aCons_ap, aNil_ap, eC_ap, tB_ap, isB_ap, tNot_ap, tAnd_ap, tOr_ap, tTru_ap, _root_.Mi.truB, _root_.Mi.truL, _root_.Mi.truT, _root_.Mi.truI, fn_ap, _root_.Mi.env2, oRt, oNx, oEr, sRaise_ap, _root_.Mi.R.ok_bind, _root_.Mi.R.er_bind, _root_.Mi.R.no_bind, _root_.Mi.R.calm_ok, _root_.Mi.R.calm_no, List.set_cons_zero, List.set_cons_succ, List.length_cons, List.length_nil, List.map_cons, List.map_nil, List.replicate_zero, List.replicate_succ, List.cons_append, List.nil_append, Nat.reduceAdd, Nat.reduceSub, Nat.reduceEqDiff, if_true, if_false, Bool.not_true, Bool.not_false, ite_true, ite_false, reduceIte, Nat.zero_add, eBl_ap, len_L, len_T, lt_I, le_I, gt_I, sFor_ap, iD_ap, itemsL, itemsT, itemsDi, sAug_ap, List.getElem?_cons_succ, List.getElem?_cons_zero, eLst_ap, eTup_ap, mkL_ap, mkT_ap, Nat.reduceLeDiff, frzA_ap, frzA, List.length_map, wipe_nil, wipe_cons, eFz_ap, isL_ap, _root_.Mi.w0, _root_.Mi.w1, add_I, sub_I, eqInt, neInt, within_ok, sAsg_ap, gTp_ap, gsCons_ap, gsNil_ap, gNm_ap, Option.bind_some, frz_ap, frzE, eAnd_ap, eOr_ap, isN_none, isN_list, eIf_ap, iR1_ap, itL0, itL1, itL2, itL3, itL4, itL5, itT0, itT1, itT2, itT3, itT4, itT5, eRep_ap, rep2, rep3, rep4, rep5, rep6, xNil_ap, xF_ap, xO_ap, sPar2_ap, eIsi_ap, many_str, never_str, envT, qAA, q]
  rw [z1]
  rfl
include h ht
theorem sb_jump {R N U : List Da} (hR : R.length < 1000) (hN : N.length < 1000) (d : Da) : x__law_boarded (dsC (R ++ [encS t]) N U) [encW w, jD d] = match stepD w t d with
      | some t' => .ok (.int (pegs t' : Nat)) (dsC ((R ++ [encS t]) ++ [encS t']) (N ++ [d]) [])
      | none => .ok sJ (dsC (R ++ [encS t]) N U) := by
  have l1 := lastD R (encS t)
  show outT .none (y__law_boarded (envT (encW w) (jD d) (R ++ [encS t]) N U)) = _
  let M : Da := .dict ((movesL w t).map mvP)
  let e6 : Sl → Sl → List Da → List Da → List Da → Env := fun a b R N U => [.fz (encW w), .un, .fz (jD d), .ow (.list R), .ow (.list N), .ow (.list U), a, b]
  have pre : ∀ x : SX, (zSeq (zIf (tOr (tNot (tTru (eCall m__law_in (aCons (eVar 6) (aCons (eC (.int 0)) (aCons (eC (.int 15)) aNil)))))) (tB (eBin dNotIn' (eVar 6) (eRd 7)))) (zRet (xL (eC (.str (Str.ofString "jump"))))) zNil)
      (zSeq (zIf (tB (eBin dEq (eBin dItem' (eVar 2) (eC (.int 0))) (eC (.str (Str.ofString "jump"))))) (zExp (xClr 5)) (zExp (xPop 5)))
      (zSeq (zExp (xApp 3 (eBin dItem' (eRd 7) (eVar 6))))
      (zSeq (zExp (xApp 4 (eVar 6)))
      (zRet (xL (eIf (tB (eBin dEq (eBin dItem' (eVar 2) (eC (.int 0))) (eC (.str (Str.ofString "jump"))))) (eMs (s1D countS) (eBin dItem' (eRd 7) (eVar 6)) (aCons (eC (.str (Str.ofString "o"))) aNil)) (eVar 6)))))))) (e6 (.fz d) (.ow M) (R ++ [encS t]) N U) = x → y__law_boarded (envT (encW w) (jD d) (R ++ [encS t]) N U) = x := fun x hx => by
    refine zseq_nx (r' := envT (encW w) (jD d) (R ++ [encS t]) N U) (zif_f ?_ rfl) ?_
    · simp (config := { decide := false }) only [_root_.Mi.v0, _root_.Mi.vS, _root_.Mi.rd0f, _root_.Mi.rd0o, _root_.Mi.rdS, _root_.Mi.iteT, _root_.Mi.iteF, bS_ok, bS_er, bS_no, oNo, sSeq_ap, sSet_ap, sOwn_ap, sExp_ap, sRet_ap, sIf_ap, sNil_ap, eBin_ap, eCall_ap, aCons_ap, aNil_ap, eC_ap, tB_ap, isB_ap, tNot_ap, tAnd_ap, tOr_ap, tTru_ap, _root_.Mi.truB, _root_.Mi.truL, _root_.Mi.truT, _root_.Mi.truI, fn_ap, _root_.Mi.env2, oRt, oNx, oEr, sRaise_ap, _root_.Mi.R.ok_bind, _root_.Mi.R.er_bind, _root_.Mi.R.no_bind, _root_.Mi.R.calm_ok, _root_.Mi.R.calm_no, List.set_cons_zero, List.set_cons_succ, List.length_cons, List.length_nil, List.map_cons, List.map_nil, List.replicate_zero, List.replicate_succ, List.cons_append, List.nil_append, Nat.reduceAdd, Nat.reduceSub, Nat.reduceEqDiff, if_true, if_false, Bool.not_true, Bool.not_false, ite_true, ite_false, reduceIte, Nat.zero_add, eBl_ap, len_L, len_T, lt_I, le_I, gt_I, sFor_ap, iD_ap, itemsL, itemsT, itemsDi, sAug_ap, List.getElem?_cons_succ, List.getElem?_cons_zero, eLst_ap, eTup_ap, mkL_ap, mkT_ap, Nat.reduceLeDiff, frzA_ap, frzA, List.length_map, wipe_nil, wipe_cons, eFz_ap, isL_ap, _root_.Mi.w0, _root_.Mi.w1, add_I, sub_I, eqInt, neInt, within_ok, sAsg_ap, gTp_ap, gsCons_ap, gsNil_ap, gNm_ap, Option.bind_some, frz_ap, frzE, eAnd_ap, eOr_ap, isN_none, isN_list, eIf_ap, iR1_ap, itL0, itL1, itL2, itL3, itL4, itL5, itT0, itT1, itT2, itT3, itT4, itT5, eRep_ap, rep2, rep3, rep4, rep5, rep6, xNil_ap, xF_ap, xO_ap, sPar2_ap, eIsi_ap, many_str, never_str, envT, qJB]
    refine zseq_nx (r' := envT (encW w) (jD d) (R ++ [encS t]) N U) (zif_f ?_ rfl) ?_
    · simp (config := { decide := false }) only [_root_.Mi.v0, _root_.Mi.vS, _root_.Mi.rd0f, _root_.Mi.rd0o, _root_.Mi.rdS, _root_.Mi.iteT, _root_.Mi.iteF, bS_ok, bS_er, bS_no, oNo, sSeq_ap, sSet_ap, sOwn_ap, sExp_ap, sRet_ap, sIf_ap, sNil_ap, eBin_ap, eCall_ap, aCons_ap, aNil_ap, eC_ap, tB_ap, isB_ap, tNot_ap, tAnd_ap, tOr_ap, tTru_ap, _root_.Mi.truB, _root_.Mi.truL, _root_.Mi.truT, _root_.Mi.truI, fn_ap, _root_.Mi.env2, oRt, oNx, oEr, sRaise_ap, _root_.Mi.R.ok_bind, _root_.Mi.R.er_bind, _root_.Mi.R.no_bind, _root_.Mi.R.calm_ok, _root_.Mi.R.calm_no, List.set_cons_zero, List.set_cons_succ, List.length_cons, List.length_nil, List.map_cons, List.map_nil, List.replicate_zero, List.replicate_succ, List.cons_append, List.nil_append, Nat.reduceAdd, Nat.reduceSub, Nat.reduceEqDiff, if_true, if_false, Bool.not_true, Bool.not_false, ite_true, ite_false, reduceIte, Nat.zero_add, eBl_ap, len_L, len_T, lt_I, le_I, gt_I, sFor_ap, iD_ap, itemsL, itemsT, itemsDi, sAug_ap, List.getElem?_cons_succ, List.getElem?_cons_zero, eLst_ap, eTup_ap, mkL_ap, mkT_ap, Nat.reduceLeDiff, frzA_ap, frzA, List.length_map, wipe_nil, wipe_cons, eFz_ap, isL_ap, _root_.Mi.w0, _root_.Mi.w1, add_I, sub_I, eqInt, neInt, within_ok, sAsg_ap, gTp_ap, gsCons_ap, gsNil_ap, gNm_ap, Option.bind_some, frz_ap, frzE, eAnd_ap, eOr_ap, isN_none, isN_list, eIf_ap, iR1_ap, itL0, itL1, itL2, itL3, itL4, itL5, itT0, itT1, itT2, itT3, itT4, itT5, eRep_ap, rep2, rep3, rep4, rep5, rep6, xNil_ap, xF_ap, xO_ap, sPar2_ap, eIsi_ap, many_str, never_str, envT, qJA]
    refine zseq_nx (r' := e6 (.fz d) .un (R ++ [encS t]) N U) ((zset_ok (d := d) (xl_ok ?_)).trans rfl) ?_
    · simp (config := { decide := false }) only [_root_.Mi.v0, _root_.Mi.vS, _root_.Mi.rd0f, _root_.Mi.rd0o, _root_.Mi.rdS, _root_.Mi.iteT, _root_.Mi.iteF, bS_ok, bS_er, bS_no, oNo, sSeq_ap, sSet_ap, sOwn_ap, sExp_ap, sRet_ap, sIf_ap, sNil_ap, eBin_ap, eCall_ap, aCons_ap, aNil_ap, eC_ap, tB_ap, isB_ap, tNot_ap, tAnd_ap, tOr_ap, tTru_ap, _root_.Mi.truB, _root_.Mi.truL, _root_.Mi.truT, _root_.Mi.truI, fn_ap, _root_.Mi.env2, oRt, oNx, oEr, sRaise_ap, _root_.Mi.R.ok_bind, _root_.Mi.R.er_bind, _root_.Mi.R.no_bind, _root_.Mi.R.calm_ok, _root_.Mi.R.calm_no, List.set_cons_zero, List.set_cons_succ, List.length_cons, List.length_nil, List.map_cons, List.map_nil, List.replicate_zero, List.replicate_succ, List.cons_append, List.nil_append, Nat.reduceAdd, Nat.reduceSub, Nat.reduceEqDiff, if_true, if_false, Bool.not_true, Bool.not_false, ite_true, ite_false, reduceIte, Nat.zero_add, eBl_ap, len_L, len_T, lt_I, le_I, gt_I, sFor_ap, iD_ap, itemsL, itemsT, itemsDi, sAug_ap, List.getElem?_cons_succ, List.getElem?_cons_zero, eLst_ap, eTup_ap, mkL_ap, mkT_ap, Nat.reduceLeDiff, frzA_ap, frzA, List.length_map, wipe_nil, wipe_cons, eFz_ap, isL_ap, _root_.Mi.w0, _root_.Mi.w1, add_I, sub_I, eqInt, neInt, within_ok, sAsg_ap, gTp_ap, gsCons_ap, gsNil_ap, gNm_ap, Option.bind_some, frz_ap, frzE, eAnd_ap, eOr_ap, isN_none, isN_list, eIf_ap, iR1_ap, itL0, itL1, itL2, itL3, itL4, itL5, itT0, itT1, itT2, itT3, itT4, itT5, eRep_ap, rep2, rep3, rep4, rep5, rep6, xNil_ap, xF_ap, xO_ap, sPar2_ap, eIsi_ap, many_str, never_str, envT, qJJ, eIf_ap]
    refine zseq_nx (r' := e6 (.fz d) (.ow M) (R ++ [encS t]) N U) ?_ hx
    have e7 : eBl (d1 dictD) (aCons (eCall m__law_moves (aCons (eVar 0) (aCons (eBin dItem' (eRd 3) (eNeg (eC (.int 1)))) aNil))) aNil) (e6 (.fz d) .un (R ++ [encS t]) N U) = .ok M := by
      simp (config := { decide := false }) only [_root_.Mi.v0, _root_.Mi.vS, _root_.Mi.rd0f, _root_.Mi.rd0o, _root_.Mi.rdS, _root_.Mi.iteT, _root_.Mi.iteF, bS_ok, bS_er, bS_no, oNo, sSeq_ap, sSet_ap, sOwn_ap, sExp_ap, sRet_ap, sIf_ap, sNil_ap, eBin_ap, eCall_ap, aCons_ap, aNil_ap, eC_ap, tB_ap, isB_ap, tNot_ap, tAnd_ap, tOr_ap, tTru_ap, _root_.Mi.truB, _root_.Mi.truL, _root_.Mi.truT, _root_.Mi.truI, fn_ap, _root_.Mi.env2, oRt, oNx, oEr, sRaise_ap, _root_.Mi.R.ok_bind, _root_.Mi.R.er_bind, _root_.Mi.R.no_bind, _root_.Mi.R.calm_ok, _root_.Mi.R.calm_no, List.set_cons_zero, List.set_cons_succ, List.length_cons, List.length_nil, List.map_cons, List.map_nil, List.replicate_zero, List.replicate_succ, List.cons_append, List.nil_append, Nat.reduceAdd, Nat.reduceSub, Nat.reduceEqDiff, if_true, if_false, Bool.not_true, Bool.not_false, ite_true, ite_false, reduceIte, Nat.zero_add, eBl_ap, len_L, len_T, lt_I, le_I, gt_I, sFor_ap, iD_ap, itemsL, itemsT, itemsDi, sAug_ap, List.getElem?_cons_succ, List.getElem?_cons_zero, eLst_ap, eTup_ap, mkL_ap, mkT_ap, Nat.reduceLeDiff, frzA_ap, frzA, List.length_map, wipe_nil, wipe_cons, eFz_ap, isL_ap, _root_.Mi.w0, _root_.Mi.w1, add_I, sub_I, eqInt, neInt, within_ok, sAsg_ap, gTp_ap, gsCons_ap, gsNil_ap, gNm_ap, Option.bind_some, frz_ap, frzE, eAnd_ap, eOr_ap, isN_none, isN_list, eIf_ap, iR1_ap, itL0, itL1, itL2, itL3, itL4, itL5, itT0, itT1, itT2, itT3, itT4, itT5, eRep_ap, rep2, rep3, rep4, rep5, rep6, xNil_ap, xF_ap, xO_ap, sPar2_ap, eIsi_ap, many_str, never_str, e6, ng1, l1, law_moves_ok h ht, dict_M]
      all_goals rfl
    unfold zOwn
    rw [e7]
    rfl
  have no : inRg 0 15 d = false → y__law_boarded (envT (encW w) (jD d) (R ++ [encS t]) N U) = .rt sJ (e6 (.fz d) (.ow M) (R ++ [encS t]) N U) := fun hi => by
    refine pre _ (zseq_rt (zif_t ?_ rfl))
    simp (config := { decide := false }) only [_root_.Mi.v0, _root_.Mi.vS, _root_.Mi.rd0f, _root_.Mi.rd0o, _root_.Mi.rdS, _root_.Mi.iteT, _root_.Mi.iteF, bS_ok, bS_er, bS_no, oNo, sSeq_ap, sSet_ap, sOwn_ap, sExp_ap, sRet_ap, sIf_ap, sNil_ap, eBin_ap, eCall_ap, aCons_ap, aNil_ap, eC_ap, tB_ap, isB_ap, tNot_ap, tAnd_ap, tOr_ap, tTru_ap, _root_.Mi.truB, _root_.Mi.truL, _root_.Mi.truT, _root_.Mi.truI, fn_ap, _root_.Mi.env2, oRt, oNx, oEr, sRaise_ap, _root_.Mi.R.ok_bind, _root_.Mi.R.er_bind, _root_.Mi.R.no_bind, _root_.Mi.R.calm_ok, _root_.Mi.R.calm_no, List.set_cons_zero, List.set_cons_succ, List.length_cons, List.length_nil, List.map_cons, List.map_nil, List.replicate_zero, List.replicate_succ, List.cons_append, List.nil_append, Nat.reduceAdd, Nat.reduceSub, Nat.reduceEqDiff, if_true, if_false, Bool.not_true, Bool.not_false, ite_true, ite_false, reduceIte, Nat.zero_add, eBl_ap, len_L, len_T, lt_I, le_I, gt_I, sFor_ap, iD_ap, itemsL, itemsT, itemsDi, sAug_ap, List.getElem?_cons_succ, List.getElem?_cons_zero, eLst_ap, eTup_ap, mkL_ap, mkT_ap, Nat.reduceLeDiff, frzA_ap, frzA, List.length_map, wipe_nil, wipe_cons, eFz_ap, isL_ap, _root_.Mi.w0, _root_.Mi.w1, add_I, sub_I, eqInt, neInt, within_ok, sAsg_ap, gTp_ap, gsCons_ap, gsNil_ap, gNm_ap, Option.bind_some, frz_ap, frzE, eAnd_ap, eOr_ap, isN_none, isN_list, eIf_ap, iR1_ap, itL0, itL1, itL2, itL3, itL4, itL5, itT0, itT1, itT2, itT3, itT4, itT5, eRep_ap, rep2, rep3, rep4, rep5, rep6, xNil_ap, xF_ap, xO_ap, sPar2_ap, eIsi_ap, many_str, never_str, e6, in_d, hi]
  cases d with
  | int i =>
    cases hst : stepD w t (.int i) with
    | some t' =>
      have hf := stepD_find h t i
      rw [hst] at hf
      cases hq : (movesL w t).find? fun m => decide ((m.1 : Int) = i) with
      | none => rw [hq] at hf; cases hf
      | some m =>
        rw [hq] at hf
        cases hf
        have hm := List.mem_of_find?_eq_some hq
        have he := List.find?_some hq
        have he : (m.1 : Int) = i := by simpa using he
        obtain ⟨q, _, e1, e2, _⟩ := steps_mem.mp hm
        have := (List.getElem?_eq_some_iff.mp e1).1
        have hlen := h.len
        have hi : inRg 0 15 (.int i) = true := by
          show (decide (0 ≤ i) && decide (i ≤ 15)) = true
          rw [decide_eq_true (by omega), decide_eq_true (by omega)]
          rfl
        have ha : ((movesL w t).any fun m => decide ((m.1 : Int) = i)) = true := by rw [find_any, hq]; rfl
        have z1 : y__law_boarded (envT (encW w) (jD (.int i)) (R ++ [encS t]) N U) = .rt (.int (pegs m.2 : Nat)) (e6 (.fz (.int i)) (.ow M) ((R ++ [encS t]) ++ [encS m.2]) (N ++ [.int i]) []) := by
          refine pre _ ?_
          refine zseq_nx (r' := e6 (.fz (.int i)) (.ow M) (R ++ [encS t]) N U) (zif_f ?_ rfl) ?_
          · simp (config := { decide := false }) only [_root_.Mi.v0, _root_.Mi.vS, _root_.Mi.rd0f, _root_.Mi.rd0o, _root_.Mi.rdS, _root_.Mi.iteT, _root_.Mi.iteF, bS_ok, bS_er, bS_no, oNo, sSeq_ap, sSet_ap, sOwn_ap, sExp_ap, sRet_ap, sIf_ap, sNil_ap, eBin_ap, eCall_ap, aCons_ap, aNil_ap, eC_ap, tB_ap, isB_ap, tNot_ap, tAnd_ap, tOr_ap, tTru_ap, _root_.Mi.truB, _root_.Mi.truL, _root_.Mi.truT, _root_.Mi.truI, fn_ap, _root_.Mi.env2, oRt, oNx, oEr, sRaise_ap, _root_.Mi.R.ok_bind, _root_.Mi.R.er_bind, _root_.Mi.R.no_bind, _root_.Mi.R.calm_ok, _root_.Mi.R.calm_no, List.set_cons_zero, List.set_cons_succ, List.length_cons, List.length_nil, List.map_cons, List.map_nil, List.replicate_zero, List.replicate_succ, List.cons_append, List.nil_append, Nat.reduceAdd, Nat.reduceSub, Nat.reduceEqDiff, if_true, if_false, Bool.not_true, Bool.not_false, ite_true, ite_false, reduceIte, Nat.zero_add, eBl_ap, len_L, len_T, lt_I, le_I, gt_I, sFor_ap, iD_ap, itemsL, itemsT, itemsDi, sAug_ap, List.getElem?_cons_succ, List.getElem?_cons_zero, eLst_ap, eTup_ap, mkL_ap, mkT_ap, Nat.reduceLeDiff, frzA_ap, frzA, List.length_map, wipe_nil, wipe_cons, eFz_ap, isL_ap, _root_.Mi.w0, _root_.Mi.w1, add_I, sub_I, eqInt, neInt, within_ok, sAsg_ap, gTp_ap, gsCons_ap, gsNil_ap, gNm_ap, Option.bind_some, frz_ap, frzE, eAnd_ap, eOr_ap, isN_none, isN_list, eIf_ap, iR1_ap, itL0, itL1, itL2, itL3, itL4, itL5, itT0, itT1, itT2, itT3, itT4, itT5, eRep_ap, rep2, rep3, rep4, rep5, rep6, xNil_ap, xF_ap, xO_ap, sPar2_ap, eIsi_ap, many_str, never_str, e6, M, in_d, hi, notIn_M, ha]
          refine zseq_nx (r' := e6 (.fz (.int i)) (.ow M) (R ++ [encS t]) N []) (zif_t ?_ rfl) ?_
          · simp (config := { decide := false }) only [_root_.Mi.v0, _root_.Mi.vS, _root_.Mi.rd0f, _root_.Mi.rd0o, _root_.Mi.rdS, _root_.Mi.iteT, _root_.Mi.iteF, bS_ok, bS_er, bS_no, oNo, sSeq_ap, sSet_ap, sOwn_ap, sExp_ap, sRet_ap, sIf_ap, sNil_ap, eBin_ap, eCall_ap, aCons_ap, aNil_ap, eC_ap, tB_ap, isB_ap, tNot_ap, tAnd_ap, tOr_ap, tTru_ap, _root_.Mi.truB, _root_.Mi.truL, _root_.Mi.truT, _root_.Mi.truI, fn_ap, _root_.Mi.env2, oRt, oNx, oEr, sRaise_ap, _root_.Mi.R.ok_bind, _root_.Mi.R.er_bind, _root_.Mi.R.no_bind, _root_.Mi.R.calm_ok, _root_.Mi.R.calm_no, List.set_cons_zero, List.set_cons_succ, List.length_cons, List.length_nil, List.map_cons, List.map_nil, List.replicate_zero, List.replicate_succ, List.cons_append, List.nil_append, Nat.reduceAdd, Nat.reduceSub, Nat.reduceEqDiff, if_true, if_false, Bool.not_true, Bool.not_false, ite_true, ite_false, reduceIte, Nat.zero_add, eBl_ap, len_L, len_T, lt_I, le_I, gt_I, sFor_ap, iD_ap, itemsL, itemsT, itemsDi, sAug_ap, List.getElem?_cons_succ, List.getElem?_cons_zero, eLst_ap, eTup_ap, mkL_ap, mkT_ap, Nat.reduceLeDiff, frzA_ap, frzA, List.length_map, wipe_nil, wipe_cons, eFz_ap, isL_ap, _root_.Mi.w0, _root_.Mi.w1, add_I, sub_I, eqInt, neInt, within_ok, sAsg_ap, gTp_ap, gsCons_ap, gsNil_ap, gNm_ap, Option.bind_some, frz_ap, frzE, eAnd_ap, eOr_ap, isN_none, isN_list, eIf_ap, iR1_ap, itL0, itL1, itL2, itL3, itL4, itL5, itT0, itT1, itT2, itT3, itT4, itT5, eRep_ap, rep2, rep3, rep4, rep5, rep6, xNil_ap, xF_ap, xO_ap, sPar2_ap, eIsi_ap, many_str, never_str, e6, qJJ]
          refine zseq_nx (r' := e6 (.fz (.int i)) (.ow M) ((R ++ [encS t]) ++ [encS m.2]) N []) (zexp_ok (d := .none) ((app_ok (l := R ++ [encS t]) (d := encS m.2) rfl ?_ ?_).trans rfl)) ?_
          · simp (config := { decide := false }) only [_root_.Mi.v0, _root_.Mi.vS, _root_.Mi.rd0f, _root_.Mi.rd0o, _root_.Mi.rdS, _root_.Mi.iteT, _root_.Mi.iteF, bS_ok, bS_er, bS_no, oNo, sSeq_ap, sSet_ap, sOwn_ap, sExp_ap, sRet_ap, sIf_ap, sNil_ap, eBin_ap, eCall_ap, aCons_ap, aNil_ap, eC_ap, tB_ap, isB_ap, tNot_ap, tAnd_ap, tOr_ap, tTru_ap, _root_.Mi.truB, _root_.Mi.truL, _root_.Mi.truT, _root_.Mi.truI, fn_ap, _root_.Mi.env2, oRt, oNx, oEr, sRaise_ap, _root_.Mi.R.ok_bind, _root_.Mi.R.er_bind, _root_.Mi.R.no_bind, _root_.Mi.R.calm_ok, _root_.Mi.R.calm_no, List.set_cons_zero, List.set_cons_succ, List.length_cons, List.length_nil, List.map_cons, List.map_nil, List.replicate_zero, List.replicate_succ, List.cons_append, List.nil_append, Nat.reduceAdd, Nat.reduceSub, Nat.reduceEqDiff, if_true, if_false, Bool.not_true, Bool.not_false, ite_true, ite_false, reduceIte, Nat.zero_add, eBl_ap, len_L, len_T, lt_I, le_I, gt_I, sFor_ap, iD_ap, itemsL, itemsT, itemsDi, sAug_ap, List.getElem?_cons_succ, List.getElem?_cons_zero, eLst_ap, eTup_ap, mkL_ap, mkT_ap, Nat.reduceLeDiff, frzA_ap, frzA, List.length_map, wipe_nil, wipe_cons, eFz_ap, isL_ap, _root_.Mi.w0, _root_.Mi.w1, add_I, sub_I, eqInt, neInt, within_ok, sAsg_ap, gTp_ap, gsCons_ap, gsNil_ap, gNm_ap, Option.bind_some, frz_ap, frzE, eAnd_ap, eOr_ap, isN_none, isN_list, eIf_ap, iR1_ap, itL0, itL1, itL2, itL3, itL4, itL5, itT0, itT1, itT2, itT3, itT4, itT5, eRep_ap, rep2, rep3, rep4, rep5, rep6, xNil_ap, xF_ap, xO_ap, sPar2_ap, eIsi_ap, many_str, never_str, e6, M, item_M hq]
          · rw [List.length_append, List.length_singleton]; omega
          refine zseq_nx (r' := e6 (.fz (.int i)) (.ow M) ((R ++ [encS t]) ++ [encS m.2]) (N ++ [.int i]) []) (zexp_ok (d := .none) ((app_ok (l := N) (d := .int i) rfl rfl (by omega)).trans rfl)) ?_
          refine zret_ok (xl_ok ?_)
          have mp := ms_pegs (f := eBin dItem' (eRd 7) (eVar 6)) (s := m.2) (r := e6 (.fz (.int i)) (.ow M) ((R ++ [encS t]) ++ [encS m.2]) (N ++ [.int i]) []) (by simp (config := { decide := false }) only [_root_.Mi.v0, _root_.Mi.vS, _root_.Mi.rd0f, _root_.Mi.rd0o, _root_.Mi.rdS, _root_.Mi.iteT, _root_.Mi.iteF, bS_ok, bS_er, bS_no, oNo, sSeq_ap, sSet_ap, sOwn_ap, sExp_ap, sRet_ap, sIf_ap, sNil_ap, eBin_ap, eCall_ap, aCons_ap, aNil_ap, eC_ap, tB_ap, isB_ap, tNot_ap, tAnd_ap, tOr_ap, tTru_ap, _root_.Mi.truB, _root_.Mi.truL, _root_.Mi.truT, _root_.Mi.truI, fn_ap, _root_.Mi.env2, oRt, oNx, oEr, sRaise_ap, _root_.Mi.R.ok_bind, _root_.Mi.R.er_bind, _root_.Mi.R.no_bind, _root_.Mi.R.calm_ok, _root_.Mi.R.calm_no, List.set_cons_zero, List.set_cons_succ, List.length_cons, List.length_nil, List.map_cons, List.map_nil, List.replicate_zero, List.replicate_succ, List.cons_append, List.nil_append, Nat.reduceAdd, Nat.reduceSub, Nat.reduceEqDiff, if_true, if_false, Bool.not_true, Bool.not_false, ite_true, ite_false, reduceIte, Nat.zero_add, eBl_ap, len_L, len_T, lt_I, le_I, gt_I, sFor_ap, iD_ap, itemsL, itemsT, itemsDi, sAug_ap, List.getElem?_cons_succ, List.getElem?_cons_zero, eLst_ap, eTup_ap, mkL_ap, mkT_ap, Nat.reduceLeDiff, frzA_ap, frzA, List.length_map, wipe_nil, wipe_cons, eFz_ap, isL_ap, _root_.Mi.w0, _root_.Mi.w1, add_I, sub_I, eqInt, neInt, within_ok, sAsg_ap, gTp_ap, gsCons_ap, gsNil_ap, gNm_ap, Option.bind_some, frz_ap, frzE, eAnd_ap, eOr_ap, isN_none, isN_list, eIf_ap, iR1_ap, itL0, itL1, itL2, itL3, itL4, itL5, itT0, itT1, itT2, itT3, itT4, itT5, eRep_ap, rep2, rep3, rep4, rep5, rep6, xNil_ap, xF_ap, xO_ap, sPar2_ap, eIsi_ap, many_str, never_str, e6, M, item_M hq])
          have c : tB (eBin dEq (eBin dItem' (eVar 2) (eC (.int 0))) (eC (.str (Str.ofString "jump")))) (e6 (.fz (.int i)) (.ow M) ((R ++ [encS t]) ++ [encS m.2]) (N ++ [.int i]) []) = .ok true := by simp (config := { decide := false }) only [_root_.Mi.v0, _root_.Mi.vS, _root_.Mi.rd0f, _root_.Mi.rd0o, _root_.Mi.rdS, _root_.Mi.iteT, _root_.Mi.iteF, bS_ok, bS_er, bS_no, oNo, sSeq_ap, sSet_ap, sOwn_ap, sExp_ap, sRet_ap, sIf_ap, sNil_ap, eBin_ap, eCall_ap, aCons_ap, aNil_ap, eC_ap, tB_ap, isB_ap, tNot_ap, tAnd_ap, tOr_ap, tTru_ap, _root_.Mi.truB, _root_.Mi.truL, _root_.Mi.truT, _root_.Mi.truI, fn_ap, _root_.Mi.env2, oRt, oNx, oEr, sRaise_ap, _root_.Mi.R.ok_bind, _root_.Mi.R.er_bind, _root_.Mi.R.no_bind, _root_.Mi.R.calm_ok, _root_.Mi.R.calm_no, List.set_cons_zero, List.set_cons_succ, List.length_cons, List.length_nil, List.map_cons, List.map_nil, List.replicate_zero, List.replicate_succ, List.cons_append, List.nil_append, Nat.reduceAdd, Nat.reduceSub, Nat.reduceEqDiff, if_true, if_false, Bool.not_true, Bool.not_false, ite_true, ite_false, reduceIte, Nat.zero_add, eBl_ap, len_L, len_T, lt_I, le_I, gt_I, sFor_ap, iD_ap, itemsL, itemsT, itemsDi, sAug_ap, List.getElem?_cons_succ, List.getElem?_cons_zero, eLst_ap, eTup_ap, mkL_ap, mkT_ap, Nat.reduceLeDiff, frzA_ap, frzA, List.length_map, wipe_nil, wipe_cons, eFz_ap, isL_ap, _root_.Mi.w0, _root_.Mi.w1, add_I, sub_I, eqInt, neInt, within_ok, sAsg_ap, gTp_ap, gsCons_ap, gsNil_ap, gNm_ap, Option.bind_some, frz_ap, frzE, eAnd_ap, eOr_ap, isN_none, isN_list, eIf_ap, iR1_ap, itL0, itL1, itL2, itL3, itL4, itL5, itT0, itT1, itT2, itT3, itT4, itT5, eRep_ap, rep2, rep3, rep4, rep5, rep6, xNil_ap, xF_ap, xO_ap, sPar2_ap, eIsi_ap, many_str, never_str, e6, qJJ]
          rw [eIf_ap, c]
          exact mp
        rw [z1]
        rfl
    | none =>
      have hf := stepD_find h t i
      rw [hst] at hf
      have ha : ((movesL w t).any fun m => decide ((m.1 : Int) = i)) = false := by
        rw [find_any]
        cases hq : (movesL w t).find? fun m => decide ((m.1 : Int) = i) with
        | none => rfl
        | some m => rw [hq] at hf; cases hf
      have z1 : y__law_boarded (envT (encW w) (jD (.int i)) (R ++ [encS t]) N U) = .rt sJ (e6 (.fz (.int i)) (.ow M) (R ++ [encS t]) N U) := by
        refine pre _ (zseq_rt (zif_t ?_ rfl))
        cases hi : inRg 0 15 (.int i) with
        | false => simp (config := { decide := false }) only [_root_.Mi.v0, _root_.Mi.vS, _root_.Mi.rd0f, _root_.Mi.rd0o, _root_.Mi.rdS, _root_.Mi.iteT, _root_.Mi.iteF, bS_ok, bS_er, bS_no, oNo, sSeq_ap, sSet_ap, sOwn_ap, sExp_ap, sRet_ap, sIf_ap, sNil_ap, eBin_ap, eCall_ap, aCons_ap, aNil_ap, eC_ap, tB_ap, isB_ap, tNot_ap, tAnd_ap, tOr_ap, tTru_ap, _root_.Mi.truB, _root_.Mi.truL, _root_.Mi.truT, _root_.Mi.truI, fn_ap, _root_.Mi.env2, oRt, oNx, oEr, sRaise_ap, _root_.Mi.R.ok_bind, _root_.Mi.R.er_bind, _root_.Mi.R.no_bind, _root_.Mi.R.calm_ok, _root_.Mi.R.calm_no, List.set_cons_zero, List.set_cons_succ, List.length_cons, List.length_nil, List.map_cons, List.map_nil, List.replicate_zero, List.replicate_succ, List.cons_append, List.nil_append, Nat.reduceAdd, Nat.reduceSub, Nat.reduceEqDiff, if_true, if_false, Bool.not_true, Bool.not_false, ite_true, ite_false, reduceIte, Nat.zero_add, eBl_ap, len_L, len_T, lt_I, le_I, gt_I, sFor_ap, iD_ap, itemsL, itemsT, itemsDi, sAug_ap, List.getElem?_cons_succ, List.getElem?_cons_zero, eLst_ap, eTup_ap, mkL_ap, mkT_ap, Nat.reduceLeDiff, frzA_ap, frzA, List.length_map, wipe_nil, wipe_cons, eFz_ap, isL_ap, _root_.Mi.w0, _root_.Mi.w1, add_I, sub_I, eqInt, neInt, within_ok, sAsg_ap, gTp_ap, gsCons_ap, gsNil_ap, gNm_ap, Option.bind_some, frz_ap, frzE, eAnd_ap, eOr_ap, isN_none, isN_list, eIf_ap, iR1_ap, itL0, itL1, itL2, itL3, itL4, itL5, itT0, itT1, itT2, itT3, itT4, itT5, eRep_ap, rep2, rep3, rep4, rep5, rep6, xNil_ap, xF_ap, xO_ap, sPar2_ap, eIsi_ap, many_str, never_str, e6, in_d, hi]
        | true => simp (config := { decide := false }) only [_root_.Mi.v0, _root_.Mi.vS, _root_.Mi.rd0f, _root_.Mi.rd0o, _root_.Mi.rdS, _root_.Mi.iteT, _root_.Mi.iteF, bS_ok, bS_er, bS_no, oNo, sSeq_ap, sSet_ap, sOwn_ap, sExp_ap, sRet_ap, sIf_ap, sNil_ap, eBin_ap, eCall_ap, aCons_ap, aNil_ap, eC_ap, tB_ap, isB_ap, tNot_ap, tAnd_ap, tOr_ap, tTru_ap, _root_.Mi.truB, _root_.Mi.truL, _root_.Mi.truT, _root_.Mi.truI, fn_ap, _root_.Mi.env2, oRt, oNx, oEr, sRaise_ap, _root_.Mi.R.ok_bind, _root_.Mi.R.er_bind, _root_.Mi.R.no_bind, _root_.Mi.R.calm_ok, _root_.Mi.R.calm_no, List.set_cons_zero, List.set_cons_succ, List.length_cons, List.length_nil, List.map_cons, List.map_nil, List.replicate_zero, List.replicate_succ, List.cons_append, List.nil_append, Nat.reduceAdd, Nat.reduceSub, Nat.reduceEqDiff, if_true, if_false, Bool.not_true, Bool.not_false, ite_true, ite_false, reduceIte, Nat.zero_add, eBl_ap, len_L, len_T, lt_I, le_I, gt_I, sFor_ap, iD_ap, itemsL, itemsT, itemsDi, sAug_ap, List.getElem?_cons_succ, List.getElem?_cons_zero, eLst_ap, eTup_ap, mkL_ap, mkT_ap, Nat.reduceLeDiff, frzA_ap, frzA, List.length_map, wipe_nil, wipe_cons, eFz_ap, isL_ap, _root_.Mi.w0, _root_.Mi.w1, add_I, sub_I, eqInt, neInt, within_ok, sAsg_ap, gTp_ap, gsCons_ap, gsNil_ap, gNm_ap, Option.bind_some, frz_ap, frzE, eAnd_ap, eOr_ap, isN_none, isN_list, eIf_ap, iR1_ap, itL0, itL1, itL2, itL3, itL4, itL5, itT0, itT1, itT2, itT3, itT4, itT5, eRep_ap, rep2, rep3, rep4, rep5, rep6, xNil_ap, xF_ap, xO_ap, sPar2_ap, eIsi_ap, many_str, never_str, e6, M, in_d, hi, notIn_M, ha]
      rw [z1]
      rfl
  | none => rw [no rfl]; rfl
  | bool _ => rw [no rfl]; rfl
  | str _ => rw [no rfl]; rfl
  | list _ => rw [no rfl]; rfl
  | tuple _ => rw [no rfl]; rfl
  | dict _ => rw [no rfl]; rfl
theorem sb_again {R N : List Da} {us : List Nat} {n : Nat} {t' : Std} (hR : R.length < 1000) (hN : N.length < 1000) (e : stepD w t (encN n) = some t') : x__law_boarded (dsC (R ++ [encS t]) N ((us ++ [n]).map encN)) [encW w, aD] = .ok (encN n) (dsC ((R ++ [encS t]) ++ [encS t']) (N ++ [encN n]) (us.map encN)) := by
  have l1 := lastD R (encS t)
  have l2 := lastD (us.map encN) (encN n)
  have eU : (us ++ [n]).map encN = us.map encN ++ [encN n] := by rw [List.map_append]; rfl
  have q := eqN0 (us ++ [n])
  rw [decide_eq_false (by simp), eU] at q
  rw [eU]
  show outT .none (y__law_boarded (envT (encW w) aD (R ++ [encS t]) N (us.map encN ++ [encN n]))) = _
  let M : Da := .dict ((movesL w t).map mvP)
  let e6 : Sl → Sl → List Da → List Da → List Da → Env := fun a b R N U => [.fz (encW w), .un, .fz aD, .ow (.list R), .ow (.list N), .ow (.list U), a, b]
  have hf := stepD_find h t (n : Int)
  have e' : stepD w t (.int (n : Int)) = some t' := e
  rw [e'] at hf
  cases hq : (movesL w t).find? fun m => decide ((m.1 : Int) = (n : Int)) with
  | none => rw [hq] at hf; cases hf
  | some m =>
    rw [hq] at hf
    cases hf
    have hm := List.mem_of_find?_eq_some hq
    have he := List.find?_some hq
    have he : (m.1 : Int) = (n : Int) := by simpa using he
    obtain ⟨q', _, e1, e2, _⟩ := steps_mem.mp hm
    have := (List.getElem?_eq_some_iff.mp e1).1
    have hlen := h.len
    have hi : inRg 0 15 (encN n) = true := by
      show (decide ((0 : Int) ≤ (n : Int)) && decide ((n : Int) ≤ 15)) = true
      rw [decide_eq_true (by omega), decide_eq_true (by omega)]
      rfl
    have ha : ((movesL w t).any fun m => decide ((m.1 : Int) = (n : Int))) = true := by rw [find_any, hq]; rfl
    have nn : dNotIn' (encN n) M = .ok (.bool false) := by
      show dNotIn' (.int (n : Int)) (.dict ((movesL w t).map mvP)) = _
      rw [notIn_M, ha]
      rfl
    have im : dItem' M (encN n) = .ok (encS m.2) := item_M hq
    have z1 : y__law_boarded (envT (encW w) aD (R ++ [encS t]) N (us.map encN ++ [encN n])) = .rt (encN n) (e6 (.fz (encN n)) (.ow M) ((R ++ [encS t]) ++ [encS m.2]) (N ++ [encN n]) (us.map encN)) := by
      refine zseq_nx (r' := envT (encW w) aD (R ++ [encS t]) N (us.map encN ++ [encN n])) (zif_f ?_ rfl) ?_
      · simp (config := { decide := false }) only [_root_.Mi.v0, _root_.Mi.vS, _root_.Mi.rd0f, _root_.Mi.rd0o, _root_.Mi.rdS, _root_.Mi.iteT, _root_.Mi.iteF, bS_ok, bS_er, bS_no, oNo, sSeq_ap, sSet_ap, sOwn_ap, sExp_ap, sRet_ap, sIf_ap, sNil_ap, eBin_ap, eCall_ap, aCons_ap, aNil_ap, eC_ap, tB_ap, isB_ap, tNot_ap, tAnd_ap, tOr_ap, tTru_ap, _root_.Mi.truB, _root_.Mi.truL, _root_.Mi.truT, _root_.Mi.truI, fn_ap, _root_.Mi.env2, oRt, oNx, oEr, sRaise_ap, _root_.Mi.R.ok_bind, _root_.Mi.R.er_bind, _root_.Mi.R.no_bind, _root_.Mi.R.calm_ok, _root_.Mi.R.calm_no, List.set_cons_zero, List.set_cons_succ, List.length_cons, List.length_nil, List.map_cons, List.map_nil, List.replicate_zero, List.replicate_succ, List.cons_append, List.nil_append, Nat.reduceAdd, Nat.reduceSub, Nat.reduceEqDiff, if_true, if_false, Bool.not_true, Bool.not_false, ite_true, ite_false, reduceIte, Nat.zero_add, eBl_ap, len_L, len_T, lt_I, le_I, gt_I, sFor_ap, iD_ap, itemsL, itemsT, itemsDi, sAug_ap, List.getElem?_cons_succ, List.getElem?_cons_zero, eLst_ap, eTup_ap, mkL_ap, mkT_ap, Nat.reduceLeDiff, frzA_ap, frzA, List.length_map, wipe_nil, wipe_cons, eFz_ap, isL_ap, _root_.Mi.w0, _root_.Mi.w1, add_I, sub_I, eqInt, neInt, within_ok, sAsg_ap, gTp_ap, gsCons_ap, gsNil_ap, gNm_ap, Option.bind_some, frz_ap, frzE, eAnd_ap, eOr_ap, isN_none, isN_list, eIf_ap, iR1_ap, itL0, itL1, itL2, itL3, itL4, itL5, itT0, itT1, itT2, itT3, itT4, itT5, eRep_ap, rep2, rep3, rep4, rep5, rep6, xNil_ap, xF_ap, xO_ap, sPar2_ap, eIsi_ap, many_str, never_str, envT, qAB]
      refine zseq_nx (r' := envT (encW w) aD (R ++ [encS t]) N (us.map encN ++ [encN n])) (zif_f ?_ rfl) ?_
      · simp (config := { decide := false }) only [_root_.Mi.v0, _root_.Mi.vS, _root_.Mi.rd0f, _root_.Mi.rd0o, _root_.Mi.rdS, _root_.Mi.iteT, _root_.Mi.iteF, bS_ok, bS_er, bS_no, oNo, sSeq_ap, sSet_ap, sOwn_ap, sExp_ap, sRet_ap, sIf_ap, sNil_ap, eBin_ap, eCall_ap, aCons_ap, aNil_ap, eC_ap, tB_ap, isB_ap, tNot_ap, tAnd_ap, tOr_ap, tTru_ap, _root_.Mi.truB, _root_.Mi.truL, _root_.Mi.truT, _root_.Mi.truI, fn_ap, _root_.Mi.env2, oRt, oNx, oEr, sRaise_ap, _root_.Mi.R.ok_bind, _root_.Mi.R.er_bind, _root_.Mi.R.no_bind, _root_.Mi.R.calm_ok, _root_.Mi.R.calm_no, List.set_cons_zero, List.set_cons_succ, List.length_cons, List.length_nil, List.map_cons, List.map_nil, List.replicate_zero, List.replicate_succ, List.cons_append, List.nil_append, Nat.reduceAdd, Nat.reduceSub, Nat.reduceEqDiff, if_true, if_false, Bool.not_true, Bool.not_false, ite_true, ite_false, reduceIte, Nat.zero_add, eBl_ap, len_L, len_T, lt_I, le_I, gt_I, sFor_ap, iD_ap, itemsL, itemsT, itemsDi, sAug_ap, List.getElem?_cons_succ, List.getElem?_cons_zero, eLst_ap, eTup_ap, mkL_ap, mkT_ap, Nat.reduceLeDiff, frzA_ap, frzA, List.length_map, wipe_nil, wipe_cons, eFz_ap, isL_ap, _root_.Mi.w0, _root_.Mi.w1, add_I, sub_I, eqInt, neInt, within_ok, sAsg_ap, gTp_ap, gsCons_ap, gsNil_ap, gNm_ap, Option.bind_some, frz_ap, frzE, eAnd_ap, eOr_ap, isN_none, isN_list, eIf_ap, iR1_ap, itL0, itL1, itL2, itL3, itL4, itL5, itT0, itT1, itT2, itT3, itT4, itT5, eRep_ap, rep2, rep3, rep4, rep5, rep6, xNil_ap, xF_ap, xO_ap, sPar2_ap, eIsi_ap, many_str, never_str, envT, qAA, q]
      refine zseq_nx (r' := e6 (.fz (encN n)) .un (R ++ [encS t]) N (us.map encN ++ [encN n])) ((zset_ok (d := encN n) (xl_ok ?_)).trans rfl) ?_
      · simp (config := { decide := false }) only [_root_.Mi.v0, _root_.Mi.vS, _root_.Mi.rd0f, _root_.Mi.rd0o, _root_.Mi.rdS, _root_.Mi.iteT, _root_.Mi.iteF, bS_ok, bS_er, bS_no, oNo, sSeq_ap, sSet_ap, sOwn_ap, sExp_ap, sRet_ap, sIf_ap, sNil_ap, eBin_ap, eCall_ap, aCons_ap, aNil_ap, eC_ap, tB_ap, isB_ap, tNot_ap, tAnd_ap, tOr_ap, tTru_ap, _root_.Mi.truB, _root_.Mi.truL, _root_.Mi.truT, _root_.Mi.truI, fn_ap, _root_.Mi.env2, oRt, oNx, oEr, sRaise_ap, _root_.Mi.R.ok_bind, _root_.Mi.R.er_bind, _root_.Mi.R.no_bind, _root_.Mi.R.calm_ok, _root_.Mi.R.calm_no, List.set_cons_zero, List.set_cons_succ, List.length_cons, List.length_nil, List.map_cons, List.map_nil, List.replicate_zero, List.replicate_succ, List.cons_append, List.nil_append, Nat.reduceAdd, Nat.reduceSub, Nat.reduceEqDiff, if_true, if_false, Bool.not_true, Bool.not_false, ite_true, ite_false, reduceIte, Nat.zero_add, eBl_ap, len_L, len_T, lt_I, le_I, gt_I, sFor_ap, iD_ap, itemsL, itemsT, itemsDi, sAug_ap, List.getElem?_cons_succ, List.getElem?_cons_zero, eLst_ap, eTup_ap, mkL_ap, mkT_ap, Nat.reduceLeDiff, frzA_ap, frzA, List.length_map, wipe_nil, wipe_cons, eFz_ap, isL_ap, _root_.Mi.w0, _root_.Mi.w1, add_I, sub_I, eqInt, neInt, within_ok, sAsg_ap, gTp_ap, gsCons_ap, gsNil_ap, gNm_ap, Option.bind_some, frz_ap, frzE, eAnd_ap, eOr_ap, isN_none, isN_list, eIf_ap, iR1_ap, itL0, itL1, itL2, itL3, itL4, itL5, itT0, itT1, itT2, itT3, itT4, itT5, eRep_ap, rep2, rep3, rep4, rep5, rep6, xNil_ap, xF_ap, xO_ap, sPar2_ap, eIsi_ap, many_str, never_str, envT, qAJ, eIf_ap, ng1, l2]
      refine zseq_nx (r' := e6 (.fz (encN n)) (.ow M) (R ++ [encS t]) N (us.map encN ++ [encN n])) ?_ ?_
      · have e7 : eBl (d1 dictD) (aCons (eCall m__law_moves (aCons (eVar 0) (aCons (eBin dItem' (eRd 3) (eNeg (eC (.int 1)))) aNil))) aNil) (e6 (.fz (encN n)) .un (R ++ [encS t]) N (us.map encN ++ [encN n])) = .ok M := by
          simp (config := { decide := false }) only [_root_.Mi.v0, _root_.Mi.vS, _root_.Mi.rd0f, _root_.Mi.rd0o, _root_.Mi.rdS, _root_.Mi.iteT, _root_.Mi.iteF, bS_ok, bS_er, bS_no, oNo, sSeq_ap, sSet_ap, sOwn_ap, sExp_ap, sRet_ap, sIf_ap, sNil_ap, eBin_ap, eCall_ap, aCons_ap, aNil_ap, eC_ap, tB_ap, isB_ap, tNot_ap, tAnd_ap, tOr_ap, tTru_ap, _root_.Mi.truB, _root_.Mi.truL, _root_.Mi.truT, _root_.Mi.truI, fn_ap, _root_.Mi.env2, oRt, oNx, oEr, sRaise_ap, _root_.Mi.R.ok_bind, _root_.Mi.R.er_bind, _root_.Mi.R.no_bind, _root_.Mi.R.calm_ok, _root_.Mi.R.calm_no, List.set_cons_zero, List.set_cons_succ, List.length_cons, List.length_nil, List.map_cons, List.map_nil, List.replicate_zero, List.replicate_succ, List.cons_append, List.nil_append, Nat.reduceAdd, Nat.reduceSub, Nat.reduceEqDiff, if_true, if_false, Bool.not_true, Bool.not_false, ite_true, ite_false, reduceIte, Nat.zero_add, eBl_ap, len_L, len_T, lt_I, le_I, gt_I, sFor_ap, iD_ap, itemsL, itemsT, itemsDi, sAug_ap, List.getElem?_cons_succ, List.getElem?_cons_zero, eLst_ap, eTup_ap, mkL_ap, mkT_ap, Nat.reduceLeDiff, frzA_ap, frzA, List.length_map, wipe_nil, wipe_cons, eFz_ap, isL_ap, _root_.Mi.w0, _root_.Mi.w1, add_I, sub_I, eqInt, neInt, within_ok, sAsg_ap, gTp_ap, gsCons_ap, gsNil_ap, gNm_ap, Option.bind_some, frz_ap, frzE, eAnd_ap, eOr_ap, isN_none, isN_list, eIf_ap, iR1_ap, itL0, itL1, itL2, itL3, itL4, itL5, itT0, itT1, itT2, itT3, itT4, itT5, eRep_ap, rep2, rep3, rep4, rep5, rep6, xNil_ap, xF_ap, xO_ap, sPar2_ap, eIsi_ap, many_str, never_str, e6, ng1, l1, law_moves_ok h ht, dict_M]
          all_goals rfl
        unfold zOwn
        rw [e7]
        rfl
      refine zseq_nx (r' := e6 (.fz (encN n)) (.ow M) (R ++ [encS t]) N (us.map encN ++ [encN n])) (zif_f ?_ rfl) ?_
      · simp (config := { decide := false }) only [_root_.Mi.v0, _root_.Mi.vS, _root_.Mi.rd0f, _root_.Mi.rd0o, _root_.Mi.rdS, _root_.Mi.iteT, _root_.Mi.iteF, bS_ok, bS_er, bS_no, oNo, sSeq_ap, sSet_ap, sOwn_ap, sExp_ap, sRet_ap, sIf_ap, sNil_ap, eBin_ap, eCall_ap, aCons_ap, aNil_ap, eC_ap, tB_ap, isB_ap, tNot_ap, tAnd_ap, tOr_ap, tTru_ap, _root_.Mi.truB, _root_.Mi.truL, _root_.Mi.truT, _root_.Mi.truI, fn_ap, _root_.Mi.env2, oRt, oNx, oEr, sRaise_ap, _root_.Mi.R.ok_bind, _root_.Mi.R.er_bind, _root_.Mi.R.no_bind, _root_.Mi.R.calm_ok, _root_.Mi.R.calm_no, List.set_cons_zero, List.set_cons_succ, List.length_cons, List.length_nil, List.map_cons, List.map_nil, List.replicate_zero, List.replicate_succ, List.cons_append, List.nil_append, Nat.reduceAdd, Nat.reduceSub, Nat.reduceEqDiff, if_true, if_false, Bool.not_true, Bool.not_false, ite_true, ite_false, reduceIte, Nat.zero_add, eBl_ap, len_L, len_T, lt_I, le_I, gt_I, sFor_ap, iD_ap, itemsL, itemsT, itemsDi, sAug_ap, List.getElem?_cons_succ, List.getElem?_cons_zero, eLst_ap, eTup_ap, mkL_ap, mkT_ap, Nat.reduceLeDiff, frzA_ap, frzA, List.length_map, wipe_nil, wipe_cons, eFz_ap, isL_ap, _root_.Mi.w0, _root_.Mi.w1, add_I, sub_I, eqInt, neInt, within_ok, sAsg_ap, gTp_ap, gsCons_ap, gsNil_ap, gNm_ap, Option.bind_some, frz_ap, frzE, eAnd_ap, eOr_ap, isN_none, isN_list, eIf_ap, iR1_ap, itL0, itL1, itL2, itL3, itL4, itL5, itT0, itT1, itT2, itT3, itT4, itT5, eRep_ap, rep2, rep3, rep4, rep5, rep6, xNil_ap, xF_ap, xO_ap, sPar2_ap, eIsi_ap, many_str, never_str, e6, in_d, hi, nn]
      refine zseq_nx (r' := e6 (.fz (encN n)) (.ow M) (R ++ [encS t]) N (us.map encN)) (zif_f ?_ (zexp_ok (d := encN n) ((pop_ok (l := us.map encN) rfl).trans rfl))) ?_
      · simp (config := { decide := false }) only [_root_.Mi.v0, _root_.Mi.vS, _root_.Mi.rd0f, _root_.Mi.rd0o, _root_.Mi.rdS, _root_.Mi.iteT, _root_.Mi.iteF, bS_ok, bS_er, bS_no, oNo, sSeq_ap, sSet_ap, sOwn_ap, sExp_ap, sRet_ap, sIf_ap, sNil_ap, eBin_ap, eCall_ap, aCons_ap, aNil_ap, eC_ap, tB_ap, isB_ap, tNot_ap, tAnd_ap, tOr_ap, tTru_ap, _root_.Mi.truB, _root_.Mi.truL, _root_.Mi.truT, _root_.Mi.truI, fn_ap, _root_.Mi.env2, oRt, oNx, oEr, sRaise_ap, _root_.Mi.R.ok_bind, _root_.Mi.R.er_bind, _root_.Mi.R.no_bind, _root_.Mi.R.calm_ok, _root_.Mi.R.calm_no, List.set_cons_zero, List.set_cons_succ, List.length_cons, List.length_nil, List.map_cons, List.map_nil, List.replicate_zero, List.replicate_succ, List.cons_append, List.nil_append, Nat.reduceAdd, Nat.reduceSub, Nat.reduceEqDiff, if_true, if_false, Bool.not_true, Bool.not_false, ite_true, ite_false, reduceIte, Nat.zero_add, eBl_ap, len_L, len_T, lt_I, le_I, gt_I, sFor_ap, iD_ap, itemsL, itemsT, itemsDi, sAug_ap, List.getElem?_cons_succ, List.getElem?_cons_zero, eLst_ap, eTup_ap, mkL_ap, mkT_ap, Nat.reduceLeDiff, frzA_ap, frzA, List.length_map, wipe_nil, wipe_cons, eFz_ap, isL_ap, _root_.Mi.w0, _root_.Mi.w1, add_I, sub_I, eqInt, neInt, within_ok, sAsg_ap, gTp_ap, gsCons_ap, gsNil_ap, gNm_ap, Option.bind_some, frz_ap, frzE, eAnd_ap, eOr_ap, isN_none, isN_list, eIf_ap, iR1_ap, itL0, itL1, itL2, itL3, itL4, itL5, itT0, itT1, itT2, itT3, itT4, itT5, eRep_ap, rep2, rep3, rep4, rep5, rep6, xNil_ap, xF_ap, xO_ap, sPar2_ap, eIsi_ap, many_str, never_str, e6, qAJ]
      refine zseq_nx (r' := e6 (.fz (encN n)) (.ow M) ((R ++ [encS t]) ++ [encS m.2]) N (us.map encN)) (zexp_ok (d := .none) ((app_ok (l := R ++ [encS t]) (d := encS m.2) rfl ?_ ?_).trans rfl)) ?_
      · simp (config := { decide := false }) only [_root_.Mi.v0, _root_.Mi.vS, _root_.Mi.rd0f, _root_.Mi.rd0o, _root_.Mi.rdS, _root_.Mi.iteT, _root_.Mi.iteF, bS_ok, bS_er, bS_no, oNo, sSeq_ap, sSet_ap, sOwn_ap, sExp_ap, sRet_ap, sIf_ap, sNil_ap, eBin_ap, eCall_ap, aCons_ap, aNil_ap, eC_ap, tB_ap, isB_ap, tNot_ap, tAnd_ap, tOr_ap, tTru_ap, _root_.Mi.truB, _root_.Mi.truL, _root_.Mi.truT, _root_.Mi.truI, fn_ap, _root_.Mi.env2, oRt, oNx, oEr, sRaise_ap, _root_.Mi.R.ok_bind, _root_.Mi.R.er_bind, _root_.Mi.R.no_bind, _root_.Mi.R.calm_ok, _root_.Mi.R.calm_no, List.set_cons_zero, List.set_cons_succ, List.length_cons, List.length_nil, List.map_cons, List.map_nil, List.replicate_zero, List.replicate_succ, List.cons_append, List.nil_append, Nat.reduceAdd, Nat.reduceSub, Nat.reduceEqDiff, if_true, if_false, Bool.not_true, Bool.not_false, ite_true, ite_false, reduceIte, Nat.zero_add, eBl_ap, len_L, len_T, lt_I, le_I, gt_I, sFor_ap, iD_ap, itemsL, itemsT, itemsDi, sAug_ap, List.getElem?_cons_succ, List.getElem?_cons_zero, eLst_ap, eTup_ap, mkL_ap, mkT_ap, Nat.reduceLeDiff, frzA_ap, frzA, List.length_map, wipe_nil, wipe_cons, eFz_ap, isL_ap, _root_.Mi.w0, _root_.Mi.w1, add_I, sub_I, eqInt, neInt, within_ok, sAsg_ap, gTp_ap, gsCons_ap, gsNil_ap, gNm_ap, Option.bind_some, frz_ap, frzE, eAnd_ap, eOr_ap, isN_none, isN_list, eIf_ap, iR1_ap, itL0, itL1, itL2, itL3, itL4, itL5, itT0, itT1, itT2, itT3, itT4, itT5, eRep_ap, rep2, rep3, rep4, rep5, rep6, xNil_ap, xF_ap, xO_ap, sPar2_ap, eIsi_ap, many_str, never_str, e6, im]
      · rw [List.length_append, List.length_singleton]; omega
      refine zseq_nx (r' := e6 (.fz (encN n)) (.ow M) ((R ++ [encS t]) ++ [encS m.2]) (N ++ [encN n]) (us.map encN)) (zexp_ok (d := .none) ((app_ok (l := N) (d := encN n) rfl rfl (by omega)).trans rfl)) ?_
      refine zret_ok (xl_ok ?_)
      have c : tB (eBin dEq (eBin dItem' (eVar 2) (eC (.int 0))) (eC (.str (Str.ofString "jump")))) (e6 (.fz (encN n)) (.ow M) ((R ++ [encS t]) ++ [encS m.2]) (N ++ [encN n]) (us.map encN)) = .ok false := by simp (config := { decide := false }) only [_root_.Mi.v0, _root_.Mi.vS, _root_.Mi.rd0f, _root_.Mi.rd0o, _root_.Mi.rdS, _root_.Mi.iteT, _root_.Mi.iteF, bS_ok, bS_er, bS_no, oNo, sSeq_ap, sSet_ap, sOwn_ap, sExp_ap, sRet_ap, sIf_ap, sNil_ap, eBin_ap, eCall_ap, aCons_ap, aNil_ap, eC_ap, tB_ap, isB_ap, tNot_ap, tAnd_ap, tOr_ap, tTru_ap, _root_.Mi.truB, _root_.Mi.truL, _root_.Mi.truT, _root_.Mi.truI, fn_ap, _root_.Mi.env2, oRt, oNx, oEr, sRaise_ap, _root_.Mi.R.ok_bind, _root_.Mi.R.er_bind, _root_.Mi.R.no_bind, _root_.Mi.R.calm_ok, _root_.Mi.R.calm_no, List.set_cons_zero, List.set_cons_succ, List.length_cons, List.length_nil, List.map_cons, List.map_nil, List.replicate_zero, List.replicate_succ, List.cons_append, List.nil_append, Nat.reduceAdd, Nat.reduceSub, Nat.reduceEqDiff, if_true, if_false, Bool.not_true, Bool.not_false, ite_true, ite_false, reduceIte, Nat.zero_add, eBl_ap, len_L, len_T, lt_I, le_I, gt_I, sFor_ap, iD_ap, itemsL, itemsT, itemsDi, sAug_ap, List.getElem?_cons_succ, List.getElem?_cons_zero, eLst_ap, eTup_ap, mkL_ap, mkT_ap, Nat.reduceLeDiff, frzA_ap, frzA, List.length_map, wipe_nil, wipe_cons, eFz_ap, isL_ap, _root_.Mi.w0, _root_.Mi.w1, add_I, sub_I, eqInt, neInt, within_ok, sAsg_ap, gTp_ap, gsCons_ap, gsNil_ap, gNm_ap, Option.bind_some, frz_ap, frzE, eAnd_ap, eOr_ap, isN_none, isN_list, eIf_ap, iR1_ap, itL0, itL1, itL2, itL3, itL4, itL5, itT0, itT1, itT2, itT3, itT4, itT5, eRep_ap, rep2, rep3, rep4, rep5, rep6, xNil_ap, xF_ap, xO_ap, sPar2_ap, eIsi_ap, many_str, never_str, e6, qAJ]
      rw [eIf_ap, c]
      rfl
    rw [z1]
    rfl
end
end Mi

namespace Mi
open PySem PySem.Spec PyProof.Rows L2
theorem sc__law_seed : FnScope ["seed", "k"] ["seed", "k"] (defScope s__law_seed) := ⟨rfl, rfl, rfl, by decide +kernel, rfl, by decide +kernel, by decide +kernel⟩
theorem sc__law_cell : FnScope ["script", "k"] ["script", "k"] (defScope s__law_cell) := ⟨rfl, rfl, rfl, by decide +kernel, rfl, by decide +kernel, by decide +kernel⟩
theorem sc__law_world : FnScope ["script", "at", "seed", "many", "jumps", "k", "one", "begin", "over", "rest", "cell"] ["script", "at"] (defScope s__law_world) := ⟨rfl, rfl, rfl, by decide +kernel, rfl, by decide +kernel, by decide +kernel⟩
theorem sc__law_pick : FnScope ["seed", "many"] ["seed", "many"] (defScope s__law_pick) := ⟨rfl, rfl, rfl, by decide +kernel, rfl, by decide +kernel, by decide +kernel⟩
theorem sc__law_stand : FnScope ["seed", "many", "k"] ["seed", "many"] (defScope s__law_stand) := ⟨rfl, rfl, rfl, by decide +kernel, rfl, by decide +kernel, by decide +kernel⟩
theorem sc__law_mix : FnScope ["cell", "prime", "many"] ["cell", "prime", "many"] (defScope s__law_mix) := ⟨rfl, rfl, rfl, by decide +kernel, rfl, by decide +kernel, by decide +kernel⟩
theorem sc__law_put : FnScope ["stand", "jump", "signs", "row"] ["stand", "jump", "signs"] (defScope s__law_put) := ⟨rfl, rfl, rfl, by decide +kernel, rfl, by decide +kernel, by decide +kernel⟩
theorem sc__law_start : FnScope ["script", "at", "world", "stand", "jump"] ["script", "at", "world"] (defScope s__law_start) := ⟨rfl, rfl, rfl, by decide +kernel, rfl, by decide +kernel, by decide +kernel⟩
theorem sc_is_within : FnScope ["thing", "low", "high"] ["thing", "low", "high"] (defScope s_is_within) := ⟨rfl, rfl, rfl, by decide +kernel, rfl, by decide +kernel, by decide +kernel⟩
theorem sc_is_jump : FnScope ["many", "thing", "one"] ["many", "thing"] (defScope s_is_jump) := ⟨rfl, rfl, rfl, by decide +kernel, rfl, by decide +kernel, by decide +kernel⟩
theorem sc_is_world : FnScope ["thing", "one", "other"] ["thing"] (defScope s_is_world) := ⟨rfl, rfl, rfl, by decide +kernel, rfl, by decide +kernel, by decide +kernel⟩
theorem sc_look : FnScope ["world"] ["world"] (defScope s_look) := ⟨rfl, rfl, rfl, by decide +kernel, rfl, by decide +kernel, by decide +kernel⟩
theorem sc_is_stand : FnScope ["world", "thing", "sign"] ["world", "thing"] (defScope s_is_stand) := ⟨rfl, rfl, rfl, by decide +kernel, rfl, by decide +kernel, by decide +kernel⟩
theorem sc_look_stand : FnScope ["world", "stand"] ["world", "stand"] (defScope s_look_stand) := ⟨rfl, rfl, rfl, by decide +kernel, rfl, by decide +kernel, by decide +kernel⟩
theorem sc_Board_init : FnScope ["self", "world", "stand"] ["self", "world", "stand"] (defScope s_Board_init) := ⟨rfl, rfl, rfl, by decide +kernel, rfl, by decide +kernel, by decide +kernel⟩
theorem sc__law_steps : FnScope ["world", "stand", "old", "new", "found", "number", "begin", "over", "end"] ["world", "stand", "old", "new"] (defScope s__law_steps) := ⟨rfl, rfl, rfl, by decide +kernel, rfl, by decide +kernel, by decide +kernel⟩
theorem sc__law_moves : FnScope ["world", "stand"] ["world", "stand"] (defScope s__law_moves) := ⟨rfl, rfl, rfl, by decide +kernel, rfl, by decide +kernel, by decide +kernel⟩
theorem sc_has : FnScope ["stand", "jump", "signs", "cell"] ["stand", "jump", "signs"] (defScope s_has) := ⟨rfl, rfl, rfl, by decide +kernel, rfl, by decide +kernel, by decide +kernel⟩
theorem sc_put : FnScope ["stand", "jump", "signs", "row", "cell", "sign"] ["stand", "jump", "signs"] (defScope s_put) := ⟨rfl, rfl, rfl, by decide +kernel, rfl, by decide +kernel, by decide +kernel⟩
theorem sc_Board_go : FnScope ["self", "number"] ["self", "number"] (defScope s_Board_go) := ⟨rfl, rfl, rfl, by decide +kernel, rfl, by decide +kernel, by decide +kernel⟩
theorem sc_Board_jump : FnScope ["self", "number"] ["self", "number"] (defScope s_Board_jump) := ⟨rfl, rfl, rfl, by decide +kernel, rfl, by decide +kernel, by decide +kernel⟩
theorem sc_Board_back : FnScope ["self"] ["self"] (defScope s_Board_back) := ⟨rfl, rfl, rfl, by decide +kernel, rfl, by decide +kernel, by decide +kernel⟩
theorem sc_Board_again : FnScope ["self", "number"] ["self"] (defScope s_Board_again) := ⟨rfl, rfl, rfl, by decide +kernel, rfl, by decide +kernel, by decide +kernel⟩
theorem sc__law_board : FnScope ["one", "deed", "found"] ["one", "deed"] (defScope s__law_board) := ⟨rfl, rfl, rfl, by decide +kernel, rfl, by decide +kernel, by decide +kernel⟩
theorem sc__law_in : FnScope ["thing", "low", "high"] ["thing", "low", "high"] (defScope s__law_in) := ⟨rfl, rfl, rfl, by decide +kernel, rfl, by decide +kernel, by decide +kernel⟩
theorem sc__law_boarded : FnScope ["world", "state", "deed", "row", "numbers", "undone", "which", "some"] ["world", "state", "deed"] (defScope s__law_boarded) := ⟨rfl, rfl, rfl, by decide +kernel, rfl, by decide +kernel, by decide +kernel⟩
theorem sc_Board_done : FnScope ["self"] ["self"] (defScope s_Board_done) := ⟨rfl, rfl, rfl, by decide +kernel, rfl, by decide +kernel, by decide +kernel⟩
theorem sc_Board_stand : FnScope ["self"] ["self"] (defScope s_Board_stand) := ⟨rfl, rfl, rfl, by decide +kernel, rfl, by decide +kernel, by decide +kernel⟩
theorem sc_moves_of : FnScope ["world", "stand", "found", "number", "jump"] ["world", "stand"] (defScope s_moves_of) := ⟨rfl, rfl, rfl, by decide +kernel, rfl, by decide +kernel, by decide +kernel⟩
theorem sc_Board_can : FnScope ["self", "number", "other"] ["self"] (defScope s_Board_can) := ⟨rfl, rfl, rfl, by decide +kernel, rfl, by decide +kernel, by decide +kernel⟩
theorem sc_law : FnScope ["script", "world", "stand", "one", "state", "k", "seed", "some", "at", "other", "which", "deed", "told", "odd"] ["script"] (defScope s_law) := ⟨rfl, rfl, rfl, by decide +kernel, rfl, by decide +kernel, by decide +kernel⟩
def b_law : Env → SR := (sSeq (sSet 1 (eCall m__law_world (aCons (eVar 0) (aCons (eC (.int 0)) aNil))))
  (sSeq (sSet 2 (eCall m__law_start (aCons (eVar 0) (aCons (eC (.int 4)) (aCons (eVar 1) aNil)))))
  (sSeq (sSetC 3 (eMkC m_look_stand (eVar 1) (eVar 2)))
  (sSeq (sSetC 4 (eMkS (eVar 2)))
  (sSeq (sFor (iR1 (eCall m__law_mix (aCons (eCall m__law_cell (aCons (eVar 0) (aCons (eC (.int 6)) aNil))) (aCons (eC (.int 9949)) (aCons (eC (.int 41)) aNil))))) (gNm 5) (sSeq (sSet 6 (eCall m__law_seed (aCons (eBin dAdd (eCall m__law_cell (aCons (eVar 0) (aCons (eBin dAdd (eC (.int 7)) (eBin dMod (eVar 5) (eC (.int 3)))) aNil))) (eBin dMulI (eC (.int 61)) (eVar 5))) (aCons (eVar 5) aNil))))
  (sSeq (sSet 7 (eBin dAdd (eLc [8, 9] (iD (eCall m__law_moves (aCons (eVar 1) (aCons (eBin dItem' (eFldS 4 0) (eNeg (eC (.int 1)))) aNil)))) (gTp (gsCons (gNm 8) (gsCons (gNm 9) gsNil)) 2) ftYes (eVar 8)) (eLst (aCons (eCall m__law_pick (aCons (eBin dFdiv (eVar 6) (eC (.int 7))) (aCons (eC (.int 17)) aNil))) aNil))))
  (sSeq (sSet 10 (eBin dItem' (eVar 7) (eCall m__law_pick (aCons (eCall m__law_seed (aCons (eVar 6) (aCons (eC (.int 1)) aNil))) (aCons (eBl (d1 lenD) (aCons (eVar 7) aNil)) aNil)))))
  (sSeq (sSet 11 (eBin dItem' (eLst (aCons (eTup (aCons (eC (.str (Str.ofString "jump"))) (aCons (eVar 10) aNil))) (aCons (eTup (aCons (eC (.str (Str.ofString "back"))) aNil)) (aCons (eTup (aCons (eC (.str (Str.ofString "jump"))) (aCons (eVar 10) aNil))) (aCons (eTup (aCons (eC (.str (Str.ofString "again"))) aNil)) aNil))))) (eCall m__law_pick (aCons (eCall m__law_seed (aCons (eVar 6) (aCons (eC (.int 2)) aNil))) (aCons (eC (.int 4)) aNil)))))
  (sSeq (sSetX 12 (xCall0 x__law_board 3 (eVar 11)))
  (sSeq (sIfX (xOr (xB (xBinR dNe (eVar 12) (xCall1 x__law_boarded 4 (eVar 1) (eVar 11)))) (xL (tTru (eIsi "bool" (eVar 12))))) (sRet (eC (.bool false))) sNil)
  (sSeq (sIf (tOr (tB (eBin dNe (eMethN m_Board_stand 3 aNil) (eBin dItem' (eFldS 4 0) (eNeg (eC (.int 1)))))) (tB (eBin dNe (eMethF m_Board_done 3) (eFldS 4 1)))) (sRet (eC (.bool false))) sNil)
  (sIf (tB (eBin dNe (eMethF m_Board_can 3) (eLc [8, 9] (iD (eCall m__law_moves (aCons (eVar 1) (aCons (eBin dItem' (eFldS 4 0) (eNeg (eC (.int 1)))) aNil)))) (gTp (gsCons (gNm 8) (gsCons (gNm 9) gsNil)) 2) ftYes (eVar 8)))) (sRet (eC (.bool false))) sNil)))))))))
  (sSeq (sSet 13 (eBin dItem' (eLst (aCons (eC .none) (aCons (eNeg (eC (.int 1))) (aCons (eC (.int 16)) (aCons (eC (.bool true)) (aCons (eC (.str (Str.ofString "0"))) (aCons (eTup (aCons (eC (.int 0)) aNil)) aNil))))))) (eBin dMod (eCall m__law_cell (aCons (eVar 0) (aCons (eC (.int 10)) aNil))) (eC (.int 6)))))
  (sRetX (xAnd (xBin dEq (xCall0 x__law_board 3 (eTup (aCons (eC (.str (Str.ofString "jump"))) (aCons (eVar 13) aNil)))) (eC (.str (Str.ofString "jump")))) (eBin dEq (eMethN m_Board_stand 3 aNil) (eBin dItem' (eFldS 4 0) (eNeg (eC (.int 1)))))))))))))
def b_law_0 : Env → SR := (sSet 1 (eCall m__law_world (aCons (eVar 0) (aCons (eC (.int 0)) aNil))))
def b_law_1 : Env → SR := (sSet 2 (eCall m__law_start (aCons (eVar 0) (aCons (eC (.int 4)) (aCons (eVar 1) aNil)))))
def b_law_2 : Env → SR := (sSetC 3 (eMkC m_look_stand (eVar 1) (eVar 2)))
def b_law_3 : Env → SR := (sSetC 4 (eMkS (eVar 2)))
def b_law_4 : Env → SR := (sFor (iR1 (eCall m__law_mix (aCons (eCall m__law_cell (aCons (eVar 0) (aCons (eC (.int 6)) aNil))) (aCons (eC (.int 9949)) (aCons (eC (.int 41)) aNil))))) (gNm 5) (sSeq (sSet 6 (eCall m__law_seed (aCons (eBin dAdd (eCall m__law_cell (aCons (eVar 0) (aCons (eBin dAdd (eC (.int 7)) (eBin dMod (eVar 5) (eC (.int 3)))) aNil))) (eBin dMulI (eC (.int 61)) (eVar 5))) (aCons (eVar 5) aNil))))
  (sSeq (sSet 7 (eBin dAdd (eLc [8, 9] (iD (eCall m__law_moves (aCons (eVar 1) (aCons (eBin dItem' (eFldS 4 0) (eNeg (eC (.int 1)))) aNil)))) (gTp (gsCons (gNm 8) (gsCons (gNm 9) gsNil)) 2) ftYes (eVar 8)) (eLst (aCons (eCall m__law_pick (aCons (eBin dFdiv (eVar 6) (eC (.int 7))) (aCons (eC (.int 17)) aNil))) aNil))))
  (sSeq (sSet 10 (eBin dItem' (eVar 7) (eCall m__law_pick (aCons (eCall m__law_seed (aCons (eVar 6) (aCons (eC (.int 1)) aNil))) (aCons (eBl (d1 lenD) (aCons (eVar 7) aNil)) aNil)))))
  (sSeq (sSet 11 (eBin dItem' (eLst (aCons (eTup (aCons (eC (.str (Str.ofString "jump"))) (aCons (eVar 10) aNil))) (aCons (eTup (aCons (eC (.str (Str.ofString "back"))) aNil)) (aCons (eTup (aCons (eC (.str (Str.ofString "jump"))) (aCons (eVar 10) aNil))) (aCons (eTup (aCons (eC (.str (Str.ofString "again"))) aNil)) aNil))))) (eCall m__law_pick (aCons (eCall m__law_seed (aCons (eVar 6) (aCons (eC (.int 2)) aNil))) (aCons (eC (.int 4)) aNil)))))
  (sSeq (sSetX 12 (xCall0 x__law_board 3 (eVar 11)))
  (sSeq (sIfX (xOr (xB (xBinR dNe (eVar 12) (xCall1 x__law_boarded 4 (eVar 1) (eVar 11)))) (xL (tTru (eIsi "bool" (eVar 12))))) (sRet (eC (.bool false))) sNil)
  (sSeq (sIf (tOr (tB (eBin dNe (eMethN m_Board_stand 3 aNil) (eBin dItem' (eFldS 4 0) (eNeg (eC (.int 1)))))) (tB (eBin dNe (eMethF m_Board_done 3) (eFldS 4 1)))) (sRet (eC (.bool false))) sNil)
  (sIf (tB (eBin dNe (eMethF m_Board_can 3) (eLc [8, 9] (iD (eCall m__law_moves (aCons (eVar 1) (aCons (eBin dItem' (eFldS 4 0) (eNeg (eC (.int 1)))) aNil)))) (gTp (gsCons (gNm 8) (gsCons (gNm 9) gsNil)) 2) ftYes (eVar 8)))) (sRet (eC (.bool false))) sNil)))))))))
def b_law_5 : Env → SR := (sSet 13 (eBin dItem' (eLst (aCons (eC .none) (aCons (eNeg (eC (.int 1))) (aCons (eC (.int 16)) (aCons (eC (.bool true)) (aCons (eC (.str (Str.ofString "0"))) (aCons (eTup (aCons (eC (.int 0)) aNil)) aNil))))))) (eBin dMod (eCall m__law_cell (aCons (eVar 0) (aCons (eC (.int 10)) aNil))) (eC (.int 6)))))
def b_law_6 : Env → SR := (sRetX (xAnd (xBin dEq (xCall0 x__law_board 3 (eTup (aCons (eC (.str (Str.ofString "jump"))) (aCons (eVar 13) aNil)))) (eC (.str (Str.ofString "jump")))) (eBin dEq (eMethN m_Board_stand 3 aNil) (eBin dItem' (eFldS 4 0) (eNeg (eC (.int 1)))))))
theorem b_law_eq : b_law = (sSeq b_law_0 (sSeq b_law_1 (sSeq b_law_2 (sSeq b_law_3 (sSeq b_law_4 (sSeq b_law_5 b_law_6)))))) := rfl
def m_law : List Da → R Da := fnD 1 14 b_law
structure Fx (cls : String → Value) (K : PySem.W.Frag) (mg : Str → Option Value) : Prop where
  z_len : mg "len" = none
  z_range : mg "range" = none
  z_int : mg "int" = none
  z_sorted : mg "sorted" = none
  z_set : mg "set" = none
  z_tuple : mg "tuple" = none
  z_list : mg "list" = none
  z_isinstance : mg "isinstance" = none
  z_bool : mg "bool" = none
  z_zip : mg "zip" = none
  z_str : mg "str" = none
  z_enumerate : mg "enumerate" = none
  z_dict : mg "dict" = none
  c_MOST_CELLS : ∃ t, mg "MOST_CELLS" = some (.int 12 t)
  c_MOST_JUMPS : ∃ t, mg "MOST_JUMPS" = some (.int 16 t)
  x_BadWorld : ExF K mg cls "BadWorld" "BadWorld"
  x_BadStand : ExF K mg cls "BadStand" "BadStand"
  x_BadJump : ExF K mg cls "BadJump" "BadJump"
  x_Nothing : ExF K mg cls "Nothing" "Nothing"
  gc_Nothing : mg "Nothing" = some (cls "Nothing")
  xm_Nothing : ∀ c ∈ excL, PySem.W.exmOne K (cls c) (cls "Nothing") = some (subJ c "Nothing")
  gc_BadJump : mg "BadJump" = some (cls "BadJump")
  xm_BadJump : ∀ c ∈ excL, PySem.W.exmOne K (cls c) (cls "BadJump") = some (subJ c "BadJump")
  bcls : BCls K
  r__law_seed : Raw K mg "_law_seed" s__law_seed
  r__law_cell : Raw K mg "_law_cell" s__law_cell
  r__law_world : Raw K mg "_law_world" s__law_world
  r__law_pick : Raw K mg "_law_pick" s__law_pick
  r__law_stand : Raw K mg "_law_stand" s__law_stand
  r__law_mix : Raw K mg "_law_mix" s__law_mix
  r__law_put : Raw K mg "_law_put" s__law_put
  r__law_start : Raw K mg "_law_start" s__law_start
  r_is_within : Raw K mg "is_within" s_is_within
  r_is_jump : Raw K mg "is_jump" s_is_jump
  r_is_world : Raw K mg "is_world" s_is_world
  r_look : Raw K mg "look" s_look
  r_is_stand : Raw K mg "is_stand" s_is_stand
  r_look_stand : Raw K mg "look_stand" s_look_stand
  r_Board_init : RawI K mg s_Board_init
  r__law_steps : Raw K mg "_law_steps" s__law_steps
  r__law_moves : Raw K mg "_law_moves" s__law_moves
  r_has : Raw K mg "has" s_has
  r_put : Raw K mg "put" s_put
  r_Board_go : RawB K "go" "Board.go" s_Board_go
  r_Board_jump : RawB K "jump" "Board.jump" s_Board_jump
  r_Board_back : RawB K "back" "Board.back" s_Board_back
  r_Board_again : RawB K "again" "Board.again" s_Board_again
  r__law_board : Raw K mg "_law_board" s__law_board
  r__law_in : Raw K mg "_law_in" s__law_in
  r__law_boarded : Raw K mg "_law_boarded" s__law_boarded
  r_Board_done : RawB K "done" "Board.done" s_Board_done
  r_Board_stand : RawB K "stand" "Board.stand" s_Board_stand
  r_moves_of : Raw K mg "moves_of" s_moves_of
  r_Board_can : RawB K "can" "Board.can" s_Board_can
  r_law : Raw K mg "law" s_law
section
variable {cls : String → Value} {P : Program} {w : World} {K : PySem.W.Frag} {mg : Str → Option Value} {base : Heap}
theorem d__law_seed (fx : Fx cls K mg) : Def cls P w K mg base "_law_seed" 1 m__law_seed := by
  refine mkDef (N := ["seed", "k"]) (ps := ["seed", "k"]) (k := 0) (g := b__law_seed) fx.r__law_seed sc__law_seed (fun _ _ _ _ _ _ us hl => match us, hl with | [_, _], _ => rfl) fun X E f cdv A outer s H eX hr tk hp => ?_
  subst eX
  exact (dss_one (ds_ret (de_op o_mod (DE.r (de_op o_pow (DE.r (de_op o_mod (DE.r (de_op o_add (DE.r (de_op o_add (DE.r (de_op o_mulI (DE.r (de_var 0)) (DE.r de_int))) (DE.r (de_op o_mulI (DE.r de_int) (DE.r (de_var 1)))))) (DE.r de_int))) (DE.r de_int))) (DE.r de_int))) (DE.r de_int))))
theorem d__law_cell (fx : Fx cls K mg) : Def cls P w K mg base "_law_cell" 1 m__law_cell := by
  refine mkDef (N := ["script", "k"]) (ps := ["script", "k"]) (k := 0) (g := b__law_cell) fx.r__law_cell sc__law_cell (fun _ _ _ _ _ _ us hl => match us, hl with | [_, _], _ => rfl) fun X E f cdv A outer s H eX hr tk hp => ?_
  subst eX
  exact (dss_cons (ds_if (dt_cmp o_lt (DE.r (de_var 1)) (DE.r (de_bltB c_len (fx.z_len) (by decide +kernel) (db_cons (DE.r (de_var 0)) db_nil)))) (dss_one (ds_ret (de_itemA hr (DE.r (de_var 0)) (DE.r (de_var 1))))) dss_nil)
  (dss_one (ds_ret de_int)))
theorem d__law_world (fx : Fx cls K mg) (g__law_seed : Def cls P w K mg base "_law_seed" 1 m__law_seed) (g__law_cell : Def cls P w K mg base "_law_cell" 1 m__law_cell) : Def cls P w K mg base "_law_world" 2 m__law_world := by
  refine mkDef (N := ["script", "at", "seed", "many", "jumps", "k", "one", "begin", "over", "rest", "cell"]) (ps := ["script", "at"]) (k := 1) (g := b__law_world) fx.r__law_world sc__law_world (fun _ _ _ _ _ _ us hl => match us, hl with | [_, _], _ => rfl) fun X E f cdv A outer s H eX hr tk hp => ?_
  subst eX
  exact (dss_cons (ds_set 2 sc__law_world.nd (de_callA g__law_seed (Room.mono hr (by decide)) tk (da_cons (de_callA g__law_cell (Room.mono hr (by decide)) tk (da_cons (de_var 0) (da_cons (de_var 1) da_nil))) (da_cons de_int da_nil))))
  (dss_cons (ds_set 3 sc__law_world.nd (de_itemA hr (DF.r (df_lst (da_cons (de_op o_add (DE.r de_int) (DE.r (de_op o_mod (DE.r (de_op o_fdiv (DE.r (de_var 2)) (DE.r de_int))) (DE.r de_int)))) (da_cons de_int (da_cons de_int (da_cons de_int da_nil)))))) (DE.r (de_op o_mod (DE.r (de_op o_fdiv (DE.r (de_var 2)) (DE.r de_int))) (DE.r de_int)))))
  (dss_cons (ds_own 4 sc__law_world.nd (df_lst da_nil))
  (dss_cons (ds_if (dt_cmp (o_eqA hr) (DE.r (de_op o_mod (DE.r (de_op o_fdiv (DE.r (de_var 2)) (DE.r de_int))) (DE.r de_int))) (DE.r de_int)) (dss_one (ds_for hp (di_r1 (fx.z_range) (de_op o_sub (DE.r (de_var 3)) (DE.r de_int))) (dg_name 5 sc__law_world.nd) (dss_one (ds_own 4 sc__law_world.nd (df_cat (dr_var 4) (DF.r (df_lst (da_cons (de_tup (da_cons (de_var 5) (da_cons (de_op o_add (DE.r (de_var 5)) (DE.r de_int)) (da_cons (de_op o_add (DE.r (de_var 5)) (DE.r de_int)) da_nil)))) (da_cons (de_tup (da_cons (de_op o_add (DE.r (de_var 5)) (DE.r de_int)) (da_cons (de_op o_add (DE.r (de_var 5)) (DE.r de_int)) (da_cons (de_var 5) da_nil)))) da_nil))))))))) (dss_one (ds_if (dt_cmp (o_eqA hr) (DE.r (de_op o_mod (DE.r (de_op o_fdiv (DE.r (de_var 2)) (DE.r de_int))) (DE.r de_int))) (DE.r de_int)) (dss_one (ds_for hp (di_r1 (fx.z_range) (de_var 3)) (dg_name 5 sc__law_world.nd) (dss_cons (ds_own 4 sc__law_world.nd (df_cat (dr_var 4) (DF.r (df_rep (df_lst (da_cons (de_tup (da_cons (de_var 5) (da_cons (de_op o_add (DE.r (de_var 5)) (DE.r de_int)) (da_cons (de_op o_add (DE.r (de_var 5)) (DE.r de_int)) da_nil)))) da_nil)) (de_bltT c_int (fx.z_int) (by decide +kernel) (db_cons (DE.r (de_and (de_cmp o_lt (DE.r (de_op o_mod (DE.r (de_var 5)) (DE.r de_int))) (DE.r de_int)) (de_one (de_cmp o_lt (DE.r (de_op o_add (DE.r (de_var 5)) (DE.r de_int))) (DE.r (de_var 3)))))) db_nil))))))
  (dss_one (ds_own 4 sc__law_world.nd (df_cat (dr_var 4) (DF.r (df_rep (df_lst (da_cons (de_tup (da_cons (de_var 5) (da_cons (de_op o_add (DE.r (de_var 5)) (DE.r de_int)) (da_cons (de_op o_add (DE.r (de_var 5)) (DE.r de_int)) da_nil)))) (da_cons (de_tup (da_cons (de_op o_add (DE.r (de_var 5)) (DE.r de_int)) (da_cons (de_op o_add (DE.r (de_var 5)) (DE.r de_int)) (da_cons (de_var 5) da_nil)))) da_nil))) (de_bltT c_int (fx.z_int) (by decide +kernel) (db_cons (DE.r (de_cmp o_lt (DE.r (de_op o_add (DE.r (de_var 5)) (DE.r de_int))) (DE.r (de_var 3)))) db_nil)))))))))) (dss_one (ds_for hp (di_r1 (fx.z_range) (de_op o_mod (DE.r (de_op o_fdiv (DE.r (de_var 2)) (DE.r de_int))) (DE.r de_int))) (dg_name 5 sc__law_world.nd) (dss_cons (ds_set 6 sc__law_world.nd (de_callA g__law_seed (Room.mono hr (by decide)) tk (da_cons (de_op o_add (DE.r (de_callA g__law_cell (Room.mono hr (by decide)) tk (da_cons (de_var 0) (da_cons (de_op o_add (DE.r (de_op o_add (DE.r (de_var 1)) (DE.r de_int))) (DE.r (de_op o_mod (DE.r (de_var 5)) (DE.r de_int)))) da_nil)))) (DE.r (de_op o_mulI (DE.r de_int) (DE.r (de_var 5))))) (da_cons (de_var 5) da_nil))))
  (dss_cons (ds_set 7 sc__law_world.nd (de_op o_mod (DE.r (de_op o_fdiv (DE.r (de_var 6)) (DE.r de_int))) (DE.r (de_var 3))))
  (dss_cons (ds_set 8 sc__law_world.nd (de_op o_mod (DE.r (de_op o_add (DE.r (de_op o_add (DE.r (de_var 7)) (DE.r de_int))) (DE.r (de_op o_mod (DE.r (de_op o_fdiv (DE.r (de_var 6)) (DE.r de_int))) (DE.r (de_op o_sub (DE.r (de_var 3)) (DE.r de_int))))))) (DE.r (de_var 3))))
  (dss_cons (ds_ownLc 9 [("cell", 10)] sc__law_world.nd (di_r1 (fx.z_range) (de_var 3)) (blkOk_by (by kernel_rfl)) (fun s0 H0 C0 cl0 fp0 => (dgw_name 10 sc__law_world.nd)) (fun s0 H0 C0 cl0 fp0 => (dts_one (dt_cmp (o_notInA hr) (DE.r (de_var 10)) (DE.r (de_tup (da_cons (de_var 7) (da_cons (de_var 8) da_nil))))))) (fun s0 H0 C0 cl0 fp0 => (de_var 10)))
  (dss_frz 9 (dss_one (ds_app 4 (de_tup (da_cons (de_var 7) (da_cons (de_var 8) (da_cons (de_itemA hr (DE.r (de_var 9)) (DE.r (de_op o_mod (DE.r (de_op o_fdiv (DE.r (de_var 6)) (DE.r de_int))) (DE.r (de_bltB c_len (fx.z_len) (by decide +kernel) (db_cons (DE.r (de_var 9)) db_nil)))))) da_nil))))))))))))))))
  (dss_one (ds_ret (de_tup (da_cons (de_var 3) (da_cons (de_slice (DE.r (de_bltT c_tuple (fx.z_tuple) (by decide +kernel) (db_cons (DF.r (df_ssetA hr (fx.z_sorted) (fx.z_set) (dr_var 4))) db_nil))) do_none (do_some de_int)) da_nil)))))))))
theorem d__law_pick (fx : Fx cls K mg) : Def cls P w K mg base "_law_pick" 1 m__law_pick := by
  refine mkDef (N := ["seed", "many"]) (ps := ["seed", "many"]) (k := 0) (g := b__law_pick) fx.r__law_pick sc__law_pick (fun _ _ _ _ _ _ us hl => match us, hl with | [_, _], _ => rfl) fun X E f cdv A outer s H eX hr tk hp => ?_
  subst eX
  exact (dss_one (ds_ret (de_op o_mod (DE.r (de_op o_fdiv (DE.r (de_var 0)) (DE.r de_int))) (DE.r (de_var 1)))))
theorem d__law_stand (fx : Fx cls K mg) (g__law_pick : Def cls P w K mg base "_law_pick" 1 m__law_pick) (g__law_seed : Def cls P w K mg base "_law_seed" 1 m__law_seed) : Def cls P w K mg base "_law_stand" 2 m__law_stand := by
  refine mkDef (N := ["seed", "many", "k"]) (ps := ["seed", "many"]) (k := 1) (g := b__law_stand) fx.r__law_stand sc__law_stand (fun _ _ _ _ _ _ us hl => match us, hl with | [_, _], _ => rfl) fun X E f cdv A outer s H eX hr tk hp => ?_
  subst eX
  exact (dss_one (ds_ret (de_strM PySem.F.slot_str_join PySem.F.type_str_join m_join de_str (db_cons (DF.r (df_lc [("k", 2)] sc__law_stand.nd (di_r1 (fx.z_range) (de_var 1)) (blkOk_by (by kernel_rfl)) (fun s0 H0 C0 cl0 fp0 => (dgw_name 2 sc__law_stand.nd)) (fun s0 H0 C0 cl0 fp0 => dts_nil) (fun s0 H0 C0 cl0 fp0 => (de_if (dt_cmp o_lt (DE.r (de_callA g__law_pick (Room.mono hr (by decide)) takes0 (da_cons (de_callA g__law_seed (Room.mono hr (by decide)) takes0 (da_cons (de_var 0) (da_cons (de_var 2) da_nil))) (da_cons de_int da_nil)))) (DE.r (de_itemA hr (DF.r (df_lst (da_cons de_int (da_cons de_int (da_cons de_int da_nil))))) (DE.r (de_op o_mod (DE.r (de_op o_fdiv (DE.r (de_var 0)) (DE.r de_int))) (DE.r de_int)))))) de_str de_str)))) db_nil))))
theorem d__law_mix (fx : Fx cls K mg) : Def cls P w K mg base "_law_mix" 1 m__law_mix := by
  refine mkDef (N := ["cell", "prime", "many"]) (ps := ["cell", "prime", "many"]) (k := 0) (g := b__law_mix) fx.r__law_mix sc__law_mix (fun _ _ _ _ _ _ us hl => match us, hl with | [_, _, _], _ => rfl) fun X E f cdv A outer s H eX hr tk hp => ?_
  subst eX
  exact (dss_one (ds_ret (de_op o_mod (DE.r (de_op o_mod (DE.r (de_op o_pow (DE.r (de_op o_mod (DE.r (de_op o_mulI (DE.r (de_var 0)) (DE.r de_int))) (DE.r (de_var 1)))) (DE.r de_int))) (DE.r (de_var 1)))) (DE.r (de_var 2)))))
theorem d__law_put (fx : Fx cls K mg) : Def cls P w K mg base "_law_put" 1 m__law_put := by
  refine mkDef (N := ["stand", "jump", "signs", "row"]) (ps := ["stand", "jump", "signs"]) (k := 0) (g := b__law_put) fx.r__law_put sc__law_put (fun _ _ _ _ _ _ us hl => match us, hl with | [_, _, _], _ => rfl) fun X E f cdv A outer s H eX hr tk hp => ?_
  subst eX
  exact (dss_cons (ds_own 3 sc__law_put.nd (df_bltT (c_list' rfl) (fx.z_list) (by decide +kernel) (db_cons (DE.r (de_var 0)) db_nil)))
  (dss_cons (ds_asm (de_var 2) (dgm_str (dgms_cons (dgm_put 3 (de_itemA hr (DE.r (de_var 1)) (DE.r de_int))) (dgms_cons (dgm_put 3 (de_itemA hr (DE.r (de_var 1)) (DE.r de_int))) (dgms_cons (dgm_put 3 (de_itemA hr (DE.r (de_var 1)) (DE.r de_int))) dgms_nil)))))
  (dss_one (ds_ret (de_strM PySem.F.slot_str_join PySem.F.type_str_join m_join de_str (db_cons (dr_var 3) db_nil))))))
theorem d__law_start (fx : Fx cls K mg) (g__law_stand : Def cls P w K mg base "_law_stand" 2 m__law_stand) (g__law_seed : Def cls P w K mg base "_law_seed" 1 m__law_seed) (g__law_cell : Def cls P w K mg base "_law_cell" 1 m__law_cell) (g__law_mix : Def cls P w K mg base "_law_mix" 1 m__law_mix) (g__law_put : Def cls P w K mg base "_law_put" 1 m__law_put) : Def cls P w K mg base "_law_start" 3 m__law_start := by
  refine mkDef (N := ["script", "at", "world", "stand", "jump"]) (ps := ["script", "at", "world"]) (k := 2) (g := b__law_start) fx.r__law_start sc__law_start (fun _ _ _ _ _ _ us hl => match us, hl with | [_, _, _], _ => rfl) fun X E f cdv A outer s H eX hr tk hp => ?_
  subst eX
  exact (dss_cons (ds_set 3 sc__law_start.nd (de_callA g__law_stand (Room.mono hr (by decide)) tk (da_cons (de_callA g__law_seed (Room.mono hr (by decide)) tk (da_cons (de_callA g__law_cell (Room.mono hr (by decide)) tk (da_cons (de_var 0) (da_cons (de_var 1) da_nil))) (da_cons de_int da_nil))) (da_cons (de_itemA hr (DE.r (de_var 2)) (DE.r de_int)) da_nil))))
  (dss_cons (ds_if (DW.t (dw_and (dt_cmp (o_neA hr) (DE.r (de_itemA hr (DE.r (de_var 2)) (DE.r de_int))) (DE.r (de_tup da_nil))) (dw_and1 (dt_cmp o_gt (DE.r (de_op o_mod (DE.r (de_callA g__law_cell (Room.mono hr (by decide)) tk (da_cons (de_var 0) (da_cons (de_var 1) da_nil)))) (DE.r de_int))) (DE.r de_int))))) (dss_cons (ds_set 4 sc__law_start.nd (de_itemA hr (DE.r (de_itemA hr (DE.r (de_var 2)) (DE.r de_int))) (DE.r (de_callA g__law_mix (Room.mono hr (by decide)) tk (da_cons (de_callA g__law_cell (Room.mono hr (by decide)) tk (da_cons (de_var 0) (da_cons (de_op o_add (DE.r (de_var 1)) (DE.r de_int)) da_nil))) (da_cons de_int (da_cons (de_bltB c_len (fx.z_len) (by decide +kernel) (db_cons (DE.r (de_itemA hr (DE.r (de_var 2)) (DE.r de_int))) db_nil)) da_nil)))))))
  (dss_one (ds_set 3 sc__law_start.nd (de_callA g__law_put (Room.mono hr (by decide)) tk (da_cons (de_var 3) (da_cons (de_var 4) (da_cons de_str da_nil))))))) dss_nil)
  (dss_one (ds_ret (de_var 3)))))
theorem d_is_within (fx : Fx cls K mg) : Def cls P w K mg base "is_within" 1 m_is_within := by
  refine mkDef (N := ["thing", "low", "high"]) (ps := ["thing", "low", "high"]) (k := 0) (g := b_is_within) fx.r_is_within sc_is_within (fun _ _ _ _ _ _ us hl => match us, hl with | [_, _, _], _ => rfl) fun X E f cdv A outer s H eX hr tk hp => ?_
  subst eX
  exact (dss_one (ds_ret (de_and (de_isi kn_int (fx.z_isinstance) (fx.z_int) (by decide +kernel) (DE.r (de_var 0))) (de_and (de_not (DE.r (de_isi kn_bool (fx.z_isinstance) (fx.z_bool) (by decide +kernel) (DE.r (de_var 0))))) (de_one (de_chain o_le o_le (DE.r (de_var 1)) (DE.r (de_var 0)) (DE.r (de_var 2))))))))
theorem d_is_jump (fx : Fx cls K mg) (g_is_within : Def cls P w K mg base "is_within" 1 m_is_within) : Def cls P w K mg base "is_jump" 2 m_is_jump := by
  refine mkDef (N := ["many", "thing", "one"]) (ps := ["many", "thing"]) (k := 1) (g := b_is_jump) fx.r_is_jump sc_is_jump (fun _ _ _ _ _ _ us hl => match us, hl with | [_, _], _ => rfl) fun X E f cdv A outer s H eX hr tk hp => ?_
  subst eX
  exact (dss_cons (ds_if (DW.t (dw_or (dt_not (dt_tru (DE.r (de_isi kn_tuple (fx.z_isinstance) (fx.z_tuple) (by decide +kernel) (DE.r (de_var 1)))))) (dw_or (dt_cmp (o_neA hr) (DE.r (de_bltB c_len (fx.z_len) (by decide +kernel) (db_cons (DE.r (de_var 1)) db_nil))) (DE.r de_int)) (dw_or1 (dt_tru (DF.r (df_lc [("one", 2)] sc_is_jump.nd (di_any (de_var 1)) (blkOk_by (by kernel_rfl)) (fun s0 H0 C0 cl0 fp0 => (dgw_name 2 sc_is_jump.nd)) (fun s0 H0 C0 cl0 fp0 => (dts_one (dt_not (dt_tru (DE.r (de_callA g_is_within (Room.mono hr (by decide)) takes0 (da_cons (de_var 2) (da_cons de_int (da_cons (de_op o_sub (DE.r (de_var 0)) (DE.r de_int)) da_nil))))))))) (fun s0 H0 C0 cl0 fp0 => (de_var 2))))))))) (dss_one (ds_ret de_bl)) dss_nil)
  (dss_one (ds_ret (de_cmp (o_eqA hr) (DE.r (de_lenSet (fx.z_len) (fx.z_set) (DE.r (de_var 1)))) (DE.r de_int)))))
theorem d_is_world (fx : Fx cls K mg) (g_is_within : Def cls P w K mg base "is_within" 1 m_is_within) (g_is_jump : Def cls P w K mg base "is_jump" 2 m_is_jump) : Def cls P w K mg base "is_world" 3 m_is_world := by
  obtain ⟨t_MOST_CELLS, h_MOST_CELLS⟩ := fx.c_MOST_CELLS
  obtain ⟨t_MOST_JUMPS, h_MOST_JUMPS⟩ := fx.c_MOST_JUMPS
  refine mkDef (N := ["thing", "one", "other"]) (ps := ["thing"]) (k := 2) (g := b_is_world) fx.r_is_world sc_is_world (fun _ _ _ _ _ _ us hl => match us, hl with | [_], _ => rfl) fun X E f cdv A outer s H eX hr tk hp => ?_
  subst eX
  exact (dss_cons (ds_if (DW.t (dw_or (dt_not (dt_tru (DE.r (de_isi kn_tuple (fx.z_isinstance) (fx.z_tuple) (by decide +kernel) (DE.r (de_var 0)))))) (dw_or (dt_cmp (o_neA hr) (DE.r (de_bltB c_len (fx.z_len) (by decide +kernel) (db_cons (DE.r (de_var 0)) db_nil))) (DE.r de_int)) (dw_or1 (dt_not (dt_tru (DE.r (de_callA g_is_within (Room.mono hr (by decide)) tk (da_cons (de_itemA hr (DE.r (de_var 0)) (DE.r de_int)) (da_cons de_int (da_cons (de_globI h_MOST_CELLS) da_nil))))))))))) (dss_one (ds_ret de_bl)) dss_nil)
  (dss_cons (ds_if (DW.t (dw_or (dt_not (dt_tru (DE.r (de_isi kn_tuple (fx.z_isinstance) (fx.z_tuple) (by decide +kernel) (DE.r (de_itemA hr (DE.r (de_var 0)) (DE.r de_int))))))) (dw_or1 (dt_cmp o_gt (DE.r (de_bltB c_len (fx.z_len) (by decide +kernel) (db_cons (DE.r (de_itemA hr (DE.r (de_var 0)) (DE.r de_int))) db_nil))) (DE.r (de_globI h_MOST_JUMPS)))))) (dss_one (ds_ret de_bl)) dss_nil)
  (dss_cons (ds_if (dt_tru (DF.r (df_lc [("one", 1)] sc_is_world.nd (di_any (de_itemA hr (DE.r (de_var 0)) (DE.r de_int))) (blkOk_by (by kernel_rfl)) (fun s0 H0 C0 cl0 fp0 => (dgw_name 1 sc_is_world.nd)) (fun s0 H0 C0 cl0 fp0 => (dts_one (dt_not (dt_tru (DE.r (de_callA g_is_jump (Room.mono hr (by decide)) takes0 (da_cons (de_itemA hr (DE.r (de_var 0)) (DE.r de_int)) (da_cons (de_var 1) da_nil)))))))) (fun s0 H0 C0 cl0 fp0 => (de_var 1))))) (dss_one (ds_ret de_bl)) dss_nil)
  (dss_one (ds_ret (de_not (DF.r (df_lc [("one", 1), ("other", 2)] sc_is_world.nd (di_zip (fx.z_zip) (de_itemA hr (DE.r (de_var 0)) (DE.r de_int)) (de_slice (DE.r (de_itemA hr (DE.r (de_var 0)) (DE.r de_int))) (do_some de_int) do_none)) (blkOk_by (by kernel_rfl)) (fun s0 H0 C0 cl0 fp0 => (dgw_tup (dgsw_cons (dgw_name 1 sc_is_world.nd) (dgsw_cons (dgw_name 2 sc_is_world.nd) dgsw_nil)))) (fun s0 H0 C0 cl0 fp0 => (dts_one (dt_cmp (o_geA hr) (DE.r (de_var 1)) (DE.r (de_var 2))))) (fun s0 H0 C0 cl0 fp0 => de_int)))))))))
theorem d_look (fx : Fx cls K mg) (g_is_world : Def cls P w K mg base "is_world" 3 m_is_world) : Def cls P w K mg base "look" 4 m_look := by
  refine mkDef (N := ["world"]) (ps := ["world"]) (k := 3) (g := b_look) fx.r_look sc_look (fun _ _ _ _ _ _ us hl => match us, hl with | [_], _ => rfl) fun X E f cdv A outer s H eX hr tk hp => ?_
  subst eX
  exact (dss_one (ds_if (dt_not (dt_tru (DE.r (de_callA g_is_world (Room.mono hr (by decide)) tk (da_cons (de_var 0) da_nil))))) (dss_one (ds_raise (fx.x_BadWorld) tk)) dss_nil))
theorem d_is_stand (fx : Fx cls K mg) : Def cls P w K mg base "is_stand" 1 m_is_stand := by
  refine mkDef (N := ["world", "thing", "sign"]) (ps := ["world", "thing"]) (k := 0) (g := b_is_stand) fx.r_is_stand sc_is_stand (fun _ _ _ _ _ _ us hl => match us, hl with | [_, _], _ => rfl) fun X E f cdv A outer s H eX hr tk hp => ?_
  subst eX
  exact (dss_cons (ds_if (DW.t (dw_or (dt_not (dt_tru (DE.r (de_isi kn_str (fx.z_isinstance) (fx.z_str) (by decide +kernel) (DE.r (de_var 1)))))) (dw_or1 (dt_cmp (o_neA hr) (DE.r (de_bltB c_len (fx.z_len) (by decide +kernel) (db_cons (DE.r (de_var 1)) db_nil))) (DE.r (de_itemA hr (DE.r (de_var 0)) (DE.r de_int))))))) (dss_one (ds_ret de_bl)) dss_nil)
  (dss_one (ds_ret (de_not (DF.r (df_lc [("sign", 2)] sc_is_stand.nd (di_any (de_var 1)) (blkOk_by (by kernel_rfl)) (fun s0 H0 C0 cl0 fp0 => (dgw_name 2 sc_is_stand.nd)) (fun s0 H0 C0 cl0 fp0 => (dts_one (dt_cmp (o_notInA hr) (DE.r (de_var 2)) (DE.r de_str)))) (fun s0 H0 C0 cl0 fp0 => (de_var 2))))))))
theorem d_look_stand (fx : Fx cls K mg) (g_look : Def cls P w K mg base "look" 4 m_look) (g_is_stand : Def cls P w K mg base "is_stand" 1 m_is_stand) : Def cls P w K mg base "look_stand" 5 m_look_stand := by
  refine mkDef (N := ["world", "stand"]) (ps := ["world", "stand"]) (k := 4) (g := b_look_stand) fx.r_look_stand sc_look_stand (fun _ _ _ _ _ _ us hl => match us, hl with | [_, _], _ => rfl) fun X E f cdv A outer s H eX hr tk hp => ?_
  subst eX
  exact (dss_cons (ds_expr (de_callA g_look (Room.mono hr (by decide)) tk (da_cons (de_var 0) da_nil)))
  (dss_one (ds_if (dt_not (dt_tru (DE.r (de_callA g_is_stand (Room.mono hr (by decide)) tk (da_cons (de_var 0) (da_cons (de_var 1) da_nil)))))) (dss_one (ds_raise (fx.x_BadStand) tk)) dss_nil)))
theorem d_Board_init (fx : Fx cls K mg) (g_look_stand : Def cls P w K mg base "look_stand" 5 m_look_stand) : DefJ cls P w K mg base 6 m_look_stand := by
  refine mkDefJ (k := 5) fx.bcls fx.r_Board_init sc_Board_init (fun _ _ _ _ _ _ us hl => match us, hl with | [_, _, _], _ => rfl) rfl fun X E f cdv A outer s H eX hr tk => ?_
  subst eX
  exact ⟨⟨_, _, rfl, rfl, de_callA g_look_stand (Room.mono hr (by decide)) tk (da_cons (de_var 1) (da_cons (de_var 2) da_nil))⟩, ps_fldA (pe_varA 0) (pe_varA 1), ps_fldA (pe_varA 0) (pe_lst (pa_cons (pe_varA 2) pa_nil)), ps_fldA (pe_varA 0) (pe_lst pa_nil), ps_fldA (pe_varA 0) (pe_lst pa_nil)⟩
theorem d__law_steps (fx : Fx cls K mg) (g__law_put : Def cls P w K mg base "_law_put" 1 m__law_put) : Def cls P w K mg base "_law_steps" 2 m__law_steps := by
  refine mkDef (N := ["world", "stand", "old", "new", "found", "number", "begin", "over", "end"]) (ps := ["world", "stand", "old", "new"]) (k := 1) (g := b__law_steps) fx.r__law_steps sc__law_steps (fun _ _ _ _ _ _ us hl => match us, hl with | [_, _, _, _], _ => rfl) fun X E f cdv A outer s H eX hr tk hp => ?_
  subst eX
  exact (dss_cons (ds_own 4 sc__law_steps.nd (df_lst da_nil))
  (dss_cons (ds_for hp (di_enum (fx.z_enumerate) (de_itemA hr (DE.r (de_var 0)) (DE.r de_int))) (dg_tup (dgs_cons (dg_name 5 sc__law_steps.nd) (dgs_cons (dg_tup (dgs_cons (dg_name 6 sc__law_steps.nd) (dgs_cons (dg_name 7 sc__law_steps.nd) (dgs_cons (dg_name 8 sc__law_steps.nd) dgs_nil)))) dgs_nil))) (dss_one (ds_if (dt_cmp (o_eqA hr) (DE.r (de_op o_add (DE.r (de_op o_add (DE.r (de_itemA hr (DE.r (de_var 1)) (DE.r (de_var 6)))) (DE.r (de_itemA hr (DE.r (de_var 1)) (DE.r (de_var 7)))))) (DE.r (de_itemA hr (DE.r (de_var 1)) (DE.r (de_var 8)))))) (DE.r (de_var 2))) (dss_one (ds_app 4 (de_tup (da_cons (de_var 5) (da_cons (de_callA g__law_put (Room.mono hr (by decide)) tk (da_cons (de_var 1) (da_cons (de_tup (da_cons (de_var 6) (da_cons (de_var 7) (da_cons (de_var 8) da_nil)))) (da_cons (de_var 3) da_nil)))) da_nil))))) dss_nil)))
  (dss_one (ds_frzA 4 (ds_ret (de_var 4))))))
theorem d__law_moves (fx : Fx cls K mg) (g__law_steps : Def cls P w K mg base "_law_steps" 2 m__law_steps) : Def cls P w K mg base "_law_moves" 3 m__law_moves := by
  refine mkDef (N := ["world", "stand"]) (ps := ["world", "stand"]) (k := 2) (g := b__law_moves) fx.r__law_moves sc__law_moves (fun _ _ _ _ _ _ us hl => match us, hl with | [_, _], _ => rfl) fun X E f cdv A outer s H eX hr tk hp => ?_
  subst eX
  exact (dss_one (ds_ret (de_callA g__law_steps (Room.mono hr (by decide)) tk (da_cons (de_var 0) (da_cons (de_var 1) (da_cons de_str (da_cons de_str da_nil)))))))
theorem d_has (fx : Fx cls K mg) : Def cls P w K mg base "has" 1 m_has := by
  refine mkDef (N := ["stand", "jump", "signs", "cell"]) (ps := ["stand", "jump", "signs"]) (k := 0) (g := b_has) fx.r_has sc_has (fun _ _ _ _ _ _ us hl => match us, hl with | [_, _, _], _ => rfl) fun X E f cdv A outer s H eX hr tk hp => ?_
  subst eX
  exact (dss_one (ds_ret (de_cmp (o_eqA hr) (DF.r (df_lc [("cell", 3)] sc_has.nd (di_any (de_var 1)) (blkOk_by (by kernel_rfl)) (fun s0 H0 C0 cl0 fp0 => (dgw_name 3 sc_has.nd)) (fun s0 H0 C0 cl0 fp0 => dts_nil) (fun s0 H0 C0 cl0 fp0 => (de_itemA hr (DE.r (de_var 0)) (DE.r (de_var 3)))))) (DF.r (df_bltT (c_list' rfl) (fx.z_list) (by decide +kernel) (db_cons (DE.r (de_var 2)) db_nil))))))
theorem d_put (fx : Fx cls K mg) : Def cls P w K mg base "put" 1 m_put := by
  refine mkDef (N := ["stand", "jump", "signs", "row", "cell", "sign"]) (ps := ["stand", "jump", "signs"]) (k := 0) (g := b_put) fx.r_put sc_put (fun _ _ _ _ _ _ us hl => match us, hl with | [_, _, _], _ => rfl) fun X E f cdv A outer s H eX hr tk hp => ?_
  subst eX
  exact (dss_cons (ds_own 3 sc_put.nd (df_bltT (c_list' rfl) (fx.z_list) (by decide +kernel) (db_cons (DE.r (de_var 0)) db_nil)))
  (dss_cons (ds_for hp (di_zip (fx.z_zip) (de_var 1) (de_var 2)) (dg_tup (dgs_cons (dg_name 4 sc_put.nd) (dgs_cons (dg_name 5 sc_put.nd) dgs_nil))) (dss_one (ds_put 3 (de_var 5) (de_var 4))))
  (dss_one (ds_ret (de_strM PySem.F.slot_str_join PySem.F.type_str_join m_join de_str (db_cons (dr_var 3) db_nil))))))
theorem d_Board_go (fx : Fx cls K mg) (g_put : Def cls P w K mg base "put" 1 m_put) : DefXm cls P w K mg base "go" 2 x_Board_go := by
  refine mkDefXm (N := ["self", "number"]) (ps := ["self", "number"]) (k := 1) (g := y_Board_go) fx.r_Board_go sc_Board_go (fun _ _ _ _ _ _ us hl => match us, hl with | [_, _], _ => rfl) fun X E f cdv A outer s H eX hr tk hp => ?_
  subst eX
  exact (dxs_cons (dx_expr (dex_fapp 0 0 fx.bcls (de_callA g_put (Room.mono hr (by decide)) tk (da_cons (de_itemA hr (dr_fldC 0 0 fx.bcls) (DE.r (de_neg (DE.r de_int)))) (da_cons (de_itemA hr (DE.r (de_itemA hr (DE.r (de_fldW 0 fx.bcls)) (DE.r de_int))) (DE.r (de_var 1))) (da_cons de_str da_nil))))))
  (dxs_cons (dx_expr (dex_fapp 0 1 fx.bcls (de_var 1)))
  (dxs_one (dx_ret (DE.x (de_strM PySem.F.slot_str_count PySem.F.type_str_count m_count (de_itemA hr (dr_fldC 0 0 fx.bcls) (DE.r (de_neg (DE.r de_int)))) (db_cons (DE.r de_str) db_nil)))))))
theorem d_Board_jump (fx : Fx cls K mg) (g_has : Def cls P w K mg base "has" 1 m_has) (g_is_within : Def cls P w K mg base "is_within" 1 m_is_within) (g_Board_go : DefXm cls P w K mg base "go" 2 x_Board_go) : DefXm cls P w K mg base "jump" 3 x_Board_jump := by
  refine mkDefXm (N := ["self", "number"]) (ps := ["self", "number"]) (k := 2) (g := y_Board_jump) fx.r_Board_jump sc_Board_jump (fun _ _ _ _ _ _ us hl => match us, hl with | [_, _], _ => rfl) fun X E f cdv A outer s H eX hr tk hp => ?_
  subst eX
  exact (dxs_cons (dx_if (DW.t (dw_or (dt_not (dt_tru (DE.r (de_callA g_is_within (Room.mono hr (by decide)) tk (da_cons (de_var 1) (da_cons de_int (da_cons (de_op o_sub (DE.r (de_bltB c_len (fx.z_len) (by decide +kernel) (db_cons (DE.r (de_itemA hr (DE.r (de_fldW 0 fx.bcls)) (DE.r de_int))) db_nil))) (DE.r de_int)) da_nil))))))) (dw_or1 (dt_not (dt_tru (DE.r (de_callA g_has (Room.mono hr (by decide)) tk (da_cons (de_itemA hr (dr_fldC 0 0 fx.bcls) (DE.r (de_neg (DE.r de_int)))) (da_cons (de_itemA hr (DE.r (de_itemA hr (DE.r (de_fldW 0 fx.bcls)) (DE.r de_int))) (DE.r (de_var 1))) (da_cons de_str da_nil)))))))))) (dxs_one (dx_raise (fx.x_BadJump) tk)) dxs_nil)
  (dxs_cons (dx_fnew 0 fx.bcls)
  (dxs_one (dx_ret (dex_meth 0 fx.bcls g_Board_go (Room.mono hr (by decide)) tk (da_cons (de_var 1) da_nil))))))
theorem d_Board_back (fx : Fx cls K mg) : DefXm cls P w K mg base "back" 1 x_Board_back := by
  refine mkDefXm (N := ["self"]) (ps := ["self"]) (k := 0) (g := y_Board_back) fx.r_Board_back sc_Board_back (fun _ _ _ _ _ _ us hl => match us, hl with | [_], _ => rfl) fun X E f cdv A outer s H eX hr tk hp => ?_
  subst eX
  exact (dxs_cons (dx_if (dt_not (dt_tru (dr_fldC 0 1 fx.bcls))) (dxs_one (dx_raise (fx.x_Nothing) tk)) dxs_nil)
  (dxs_cons (dx_expr (dex_fpop 0 0 fx.bcls))
  (dxs_cons (dx_expr (dex_fmove 0 2 1 fx.bcls))
  (dxs_one (dx_ret (DE.x (de_itemA hr (dr_fldC 0 2 fx.bcls) (DE.r (de_neg (DE.r de_int))))))))))
theorem d_Board_again (fx : Fx cls K mg) (g_Board_go : DefXm cls P w K mg base "go" 2 x_Board_go) : DefXm cls P w K mg base "again" 3 x_Board_again := by
  refine mkDefXm (N := ["self", "number"]) (ps := ["self"]) (k := 2) (g := y_Board_again) fx.r_Board_again sc_Board_again (fun _ _ _ _ _ _ us hl => match us, hl with | [_], _ => rfl) fun X E f cdv A outer s H eX hr tk hp => ?_
  subst eX
  exact (dxs_cons (dx_if (dt_not (dt_tru (dr_fldC 0 2 fx.bcls))) (dxs_one (dx_raise (fx.x_Nothing) tk)) dxs_nil)
  (dxs_cons (dx_set 1 sc_Board_again.nd (dex_fpop 0 2 fx.bcls))
  (dxs_cons (dx_expr (dex_meth 0 fx.bcls g_Board_go (Room.mono hr (by decide)) tk (da_cons (de_var 1) da_nil)))
  (dxs_one (dx_ret (DE.x (de_var 1)))))))
theorem d__law_board (fx : Fx cls K mg) (g_Board_jump : DefXm cls P w K mg base "jump" 3 x_Board_jump) (g_Board_back : DefXm cls P w K mg base "back" 1 x_Board_back) (g_Board_again : DefXm cls P w K mg base "again" 3 x_Board_again) : DefXf cls P w K mg base "_law_board" 4 0 x__law_board := by
  refine mkDefXf (N := ["one", "deed", "found"]) (ps := ["one", "deed"]) (k := 3) (g := y__law_board) fx.r__law_board sc__law_board (fun _ _ _ _ _ _ us hl => match us, hl with | [_, _], _ => rfl) fun X E f cdv A outer s H eX hr tk hp => ?_
  subst eX
  exact (dxs_cons (dx_set 2 sc__law_board.nd (DE.x de_non))
  (dxs_cons (dx_try tk (fun W1 pn1 xe1 tk hp => (dxs_one (dx_if (dt_cmp (o_eqA hr) (DE.r (de_itemA hr (DE.r (de_var 1)) (DE.r de_int))) (DE.r de_str)) (dxs_one (dx_set 2 sc__law_board.nd (dex_meth 0 fx.bcls g_Board_jump (Room.mono hr (by decide)) tk (da_cons (de_itemA hr (DE.r (de_var 1)) (DE.r de_int)) da_nil)))) (dxs_one (dx_set 2 sc__law_board.nd (dex_if (dt_cmp (o_eqA hr) (DE.r (de_itemA hr (DE.r (de_var 1)) (DE.r de_int))) (DE.r de_str)) (dex_meth0 0 fx.bcls g_Board_back (Room.mono hr (by decide)) tk) (dex_meth0 0 fx.bcls g_Board_again (Room.mono hr (by decide)) tk))))))) (dhx_cons fx.gc_BadJump fx.xm_BadJump (fun a1 oe1 pn1 => (dxs_one (dx_set 2 sc__law_board.nd (DE.x de_str)))) (dhx_cons fx.gc_Nothing fx.xm_Nothing (fun a1 oe1 pn1 => (dxs_one (dx_set 2 sc__law_board.nd (DE.x de_str)))) dhx_nil)))
  (dxs_one (dx_ret (DE.x (de_var 2))))))
theorem d__law_in (fx : Fx cls K mg) : Def cls P w K mg base "_law_in" 1 m__law_in := by
  refine mkDef (N := ["thing", "low", "high"]) (ps := ["thing", "low", "high"]) (k := 0) (g := b__law_in) fx.r__law_in sc__law_in (fun _ _ _ _ _ _ us hl => match us, hl with | [_, _, _], _ => rfl) fun X E f cdv A outer s H eX hr tk hp => ?_
  subst eX
  exact (dss_one (ds_ret (de_and (de_isi kn_int (fx.z_isinstance) (fx.z_int) (by decide +kernel) (DE.r (de_var 0))) (de_and (de_not (DE.r (de_isi kn_bool (fx.z_isinstance) (fx.z_bool) (by decide +kernel) (DE.r (de_var 0))))) (de_one (de_chain o_le o_le (DE.r (de_var 1)) (DE.r (de_var 0)) (DE.r (de_var 2))))))))
theorem d__law_boarded (fx : Fx cls K mg) (g__law_moves : Def cls P w K mg base "_law_moves" 3 m__law_moves) (g__law_in : Def cls P w K mg base "_law_in" 1 m__law_in) : DefXf cls P w K mg base "_law_boarded" 4 1 x__law_boarded := by
  refine mkDefT3 (k := 3) (g := y__law_boarded) fx.r__law_boarded sc__law_boarded (fun _ _ _ _ _ _ us hl => match us, hl with | [_, _, _], _ => rfl) rfl fun X E f cdv A outer s H eX hr tk hp => ?_
  subst eX
  exact ⟨ps_par3 rfl sc__law_boarded.nd rfl rfl rfl (by decide) (by decide) (by decide) rfl rfl rfl (pa_cons (pe_dget (room_u hr) (pe_varA 1) pe_str (fun _ _ => rfl)) (pa_cons (pe_dget (room_u hr) (pe_varA 1) pe_str (fun _ _ => rfl)) (pa_cons (pe_dget (room_u hr) (pe_varA 1) pe_str (fun _ _ => rfl)) pa_nil))) rfl rfl, (dxs_cons (dx_if (dt_cmp (o_eqA hr) (DE.r (de_itemA hr (DE.r (de_var 2)) (DE.r de_int))) (DE.r de_str)) (dxs_cons (dx_if (dt_cmp (o_eqA hr) (dr_var 4) (DF.r (df_lst da_nil))) (dxs_one (dx_ret (DE.x de_str))) dxs_nil)
  (dxs_cons (dx_expr (dex_pop 3))
  (dxs_cons (dx_expr (dex_move 5 4))
  (dxs_one (dx_ret (DE.x (de_itemA hr (dr_var 5) (DE.r (de_neg (DE.r de_int)))))))))) dxs_nil)
  (dxs_cons (dx_if (DW.t (dw_and (dt_cmp (o_eqA hr) (DE.r (de_itemA hr (DE.r (de_var 2)) (DE.r de_int))) (DE.r de_str)) (dw_and1 (dt_cmp (o_eqA hr) (dr_var 5) (DF.r (df_lst da_nil)))))) (dxs_one (dx_ret (DE.x de_str))) dxs_nil)
  (dxs_cons (dx_set 6 sc__law_boarded.nd (DE.x (de_if (dt_cmp (o_eqA hr) (DE.r (de_itemA hr (DE.r (de_var 2)) (DE.r de_int))) (DE.r de_str)) (de_itemA hr (DE.r (de_var 2)) (DE.r de_int)) (de_itemA hr (dr_var 5) (DE.r (de_neg (DE.r de_int)))))))
  (dxs_cons (dx_own 7 sc__law_boarded.nd (df_bltT (c_dict rfl) (fx.z_dict) (by decide +kernel) (db_cons (DE.r (de_callA g__law_moves (Room.mono hr (by decide)) tk (da_cons (de_var 0) (da_cons (de_itemA hr (dr_var 3) (DE.r (de_neg (DE.r de_int)))) da_nil)))) db_nil)))
  (dxs_cons (dx_if (DW.t (dw_or (dt_not (dt_tru (DE.r (de_callA g__law_in (Room.mono hr (by decide)) tk (da_cons (de_var 6) (da_cons de_int (da_cons de_int da_nil))))))) (dw_or1 (dt_cmp (o_notInA hr) (DE.r (de_var 6)) (dr_var 7))))) (dxs_one (dx_ret (DE.x de_str))) dxs_nil)
  (dxs_cons (dx_if (dt_cmp (o_eqA hr) (DE.r (de_itemA hr (DE.r (de_var 2)) (DE.r de_int))) (DE.r de_str)) (dxs_one (dx_expr (dex_clr 5))) (dxs_one (dx_expr (dex_pop 5))))
  (dxs_cons (dx_expr (dex_app 3 (de_itemA hr (dr_var 7) (DE.r (de_var 6)))))
  (dxs_cons (dx_expr (dex_app 4 (de_var 6)))
  (dxs_one (dx_ret (DE.x (de_if (dt_cmp (o_eqA hr) (DE.r (de_itemA hr (DE.r (de_var 2)) (DE.r de_int))) (DE.r de_str)) (de_strM PySem.F.slot_str_count PySem.F.type_str_count m_count (de_itemA hr (dr_var 7) (DE.r (de_var 6))) (db_cons (DE.r de_str) db_nil)) (de_var 6)))))))))))))⟩
theorem d_Board_done (fx : Fx cls K mg) : DefBF cls P w K mg base "done" 1 m_Board_done := by
  refine mkDefBF (N := ["self"]) (ps := ["self"]) (k := 0) (f0 := (eBl (d1 listD') (aCons (eFld 0 2) aNil))) fx.r_Board_done sc_Board_done (fun _ _ _ _ _ _ us hl => match us, hl with | [_], _ => rfl) rfl fun X E f cdv A outer s H eX hr tk hp => ?_
  subst eX
  exact (df_bltT (c_list' rfl) (fx.z_list) (by decide +kernel) (db_cons (DE.r (de_fld 0 2 fx.bcls)) db_nil))
theorem d_Board_stand (fx : Fx cls K mg) : DefB cls P w K mg base "stand" 1 m_Board_stand := by
  refine mkDefB (N := ["self"]) (ps := ["self"]) (k := 0) (g := b_Board_stand) fx.r_Board_stand sc_Board_stand (fun _ _ _ _ _ _ us hl => match us, hl with | [_], _ => rfl) fun X E f cdv A outer s H eX hr tk hp => ?_
  subst eX
  exact (dss_one (ds_ret (de_itemA hr (DE.r (de_fld 0 1 fx.bcls)) (DE.r (de_neg (DE.r de_int))))))
theorem d_moves_of (fx : Fx cls K mg) (g_has : Def cls P w K mg base "has" 1 m_has) (g_put : Def cls P w K mg base "put" 1 m_put) : Def cls P w K mg base "moves_of" 2 m_moves_of := by
  refine mkDef (N := ["world", "stand", "found", "number", "jump"]) (ps := ["world", "stand"]) (k := 1) (g := b_moves_of) fx.r_moves_of sc_moves_of (fun _ _ _ _ _ _ us hl => match us, hl with | [_, _], _ => rfl) fun X E f cdv A outer s H eX hr tk hp => ?_
  subst eX
  exact (dss_cons (ds_own 2 sc_moves_of.nd (df_lst da_nil))
  (dss_cons (ds_for hp (di_enum (fx.z_enumerate) (de_itemA hr (DE.r (de_var 0)) (DE.r de_int))) (dg_tup (dgs_cons (dg_name 3 sc_moves_of.nd) (dgs_cons (dg_name 4 sc_moves_of.nd) dgs_nil))) (dss_one (ds_if (dt_tru (DE.r (de_callA g_has (Room.mono hr (by decide)) tk (da_cons (de_var 1) (da_cons (de_var 4) (da_cons de_str da_nil)))))) (dss_one (ds_app 2 (de_tup (da_cons (de_var 3) (da_cons (de_callA g_put (Room.mono hr (by decide)) tk (da_cons (de_var 1) (da_cons (de_var 4) (da_cons de_str da_nil)))) da_nil))))) dss_nil)))
  (dss_one (ds_frzA 2 (ds_ret (de_var 2))))))
theorem d_Board_can (fx : Fx cls K mg) (g_moves_of : Def cls P w K mg base "moves_of" 2 m_moves_of) : DefBF cls P w K mg base "can" 3 m_Board_can := by
  refine mkDefBF (N := ["self", "number", "other"]) (ps := ["self"]) (k := 2) (f0 := (eLc [1, 2] (iD (eCall m_moves_of (aCons (eFld 0 0) (aCons (eBin dItem' (eFld 0 1) (eNeg (eC (.int 1)))) aNil)))) (gTp (gsCons (gNm 1) (gsCons (gNm 2) gsNil)) 2) ftYes (eVar 1))) fx.r_Board_can sc_Board_can (fun _ _ _ _ _ _ us hl => match us, hl with | [_], _ => rfl) rfl fun X E f cdv A outer s H eX hr tk hp => ?_
  subst eX
  exact (df_lc [("number", 1), ("other", 2)] sc_Board_can.nd (di_any (de_callA g_moves_of (Room.mono hr (by decide)) tk (da_cons (de_fld 0 0 fx.bcls) (da_cons (de_itemA hr (DE.r (de_fld 0 1 fx.bcls)) (DE.r (de_neg (DE.r de_int)))) da_nil)))) (blkOk_by (by kernel_rfl)) (fun s0 H0 C0 cl0 fp0 => (dgw_tup (dgsw_cons (dgw_name 1 sc_Board_can.nd) (dgsw_cons (dgw_name 2 sc_Board_can.nd) dgsw_nil)))) (fun s0 H0 C0 cl0 fp0 => dts_nil) (fun s0 H0 C0 cl0 fp0 => (de_var 1)))
theorem d_law (fx : Fx cls K mg) (g__law_world : Def cls P w K mg base "_law_world" 2 m__law_world) (g__law_start : Def cls P w K mg base "_law_start" 3 m__law_start) (g_Board_init : DefJ cls P w K mg base 6 m_look_stand) (g__law_mix : Def cls P w K mg base "_law_mix" 1 m__law_mix) (g__law_cell : Def cls P w K mg base "_law_cell" 1 m__law_cell) (g__law_seed : Def cls P w K mg base "_law_seed" 1 m__law_seed) (g__law_moves : Def cls P w K mg base "_law_moves" 3 m__law_moves) (g__law_pick : Def cls P w K mg base "_law_pick" 1 m__law_pick) (g__law_board : DefXf cls P w K mg base "_law_board" 4 0 x__law_board) (g__law_boarded : DefXf cls P w K mg base "_law_boarded" 4 1 x__law_boarded) (g_Board_done : DefBF cls P w K mg base "done" 1 m_Board_done) (g_Board_stand : DefB cls P w K mg base "stand" 1 m_Board_stand) (g_Board_can : DefBF cls P w K mg base "can" 3 m_Board_can) : DefX cls P w K mg base "law" s_law 8 ["script"] m_law := by
  refine mkDefL (N := ["script", "world", "stand", "one", "state", "k", "seed", "some", "at", "other", "which", "deed", "told", "odd"]) (ps := ["script"]) (k := 7) (g := b_law) fx.r_law sc_law (fun _ _ _ _ _ _ us hl => match us, hl with | [_], _ => rfl) fun X E f cdv A outer s H eX hr tk hp => ?_
  subst eX
  exact (dss_cons (ds_set 1 sc_law.nd (de_callA g__law_world (Room.mono hr (by decide)) tk (da_cons (de_var 0) (da_cons de_int da_nil))))
  (dss_cons (ds_set 2 sc_law.nd (de_callA g__law_start (Room.mono hr (by decide)) tk (da_cons (de_var 0) (da_cons de_int (da_cons (de_var 1) da_nil)))))
  (dss_cons (ds_setC 3 sc_law.nd (dc_make g_Board_init (Room.mono hr (by decide)) tk (de_var 1) (de_var 2)))
  (dss_cons (ds_setC 4 sc_law.nd (dc_state (de_var 2)))
  (dss_cons (ds_for hp (di_r1 (fx.z_range) (de_callA g__law_mix (Room.mono hr (by decide)) tk (da_cons (de_callA g__law_cell (Room.mono hr (by decide)) tk (da_cons (de_var 0) (da_cons de_int da_nil))) (da_cons de_int (da_cons de_int da_nil))))) (dg_name 5 sc_law.nd) (dss_cons (ds_set 6 sc_law.nd (de_callA g__law_seed (Room.mono hr (by decide)) tk (da_cons (de_op o_add (DE.r (de_callA g__law_cell (Room.mono hr (by decide)) tk (da_cons (de_var 0) (da_cons (de_op o_add (DE.r de_int) (DE.r (de_op o_mod (DE.r (de_var 5)) (DE.r de_int)))) da_nil)))) (DE.r (de_op o_mulI (DE.r de_int) (DE.r (de_var 5))))) (da_cons (de_var 5) da_nil))))
  (dss_cons (ds_set 7 sc_law.nd (de_op o_add (DF.r (df_lc [("at", 8), ("other", 9)] sc_law.nd (di_any (de_callA g__law_moves (Room.mono hr (by decide)) tk (da_cons (de_var 1) (da_cons (de_itemA hr (dr_fldS 4 0 hr) (DE.r (de_neg (DE.r de_int)))) da_nil)))) (blkOk_by (by kernel_rfl)) (fun s0 H0 C0 cl0 fp0 => (dgw_tup (dgsw_cons (dgw_name 8 sc_law.nd) (dgsw_cons (dgw_name 9 sc_law.nd) dgsw_nil)))) (fun s0 H0 C0 cl0 fp0 => dts_nil) (fun s0 H0 C0 cl0 fp0 => (de_var 8)))) (DF.r (df_lst (da_cons (de_callA g__law_pick (Room.mono hr (by decide)) tk (da_cons (de_op o_fdiv (DE.r (de_var 6)) (DE.r de_int)) (da_cons de_int da_nil))) da_nil)))))
  (dss_cons (ds_set 10 sc_law.nd (de_itemA hr (DE.r (de_var 7)) (DE.r (de_callA g__law_pick (Room.mono hr (by decide)) tk (da_cons (de_callA g__law_seed (Room.mono hr (by decide)) tk (da_cons (de_var 6) (da_cons de_int da_nil))) (da_cons (de_bltB c_len (fx.z_len) (by decide +kernel) (db_cons (DE.r (de_var 7)) db_nil)) da_nil))))))
  (dss_cons (ds_set 11 sc_law.nd (de_itemA hr (DF.r (df_lst (da_cons (de_tup (da_cons de_str (da_cons (de_var 10) da_nil))) (da_cons (de_tup (da_cons de_str da_nil)) (da_cons (de_tup (da_cons de_str (da_cons (de_var 10) da_nil))) (da_cons (de_tup (da_cons de_str da_nil)) da_nil)))))) (DE.r (de_callA g__law_pick (Room.mono hr (by decide)) tk (da_cons (de_callA g__law_seed (Room.mono hr (by decide)) tk (da_cons (de_var 6) (da_cons de_int da_nil))) (da_cons de_int da_nil))))))
  (dss_cons (ds_setX 12 sc_law.nd (dex_call0 g__law_board (Room.mono hr (by decide)) tk (de_var 11)))
  (dss_cons (ds_ifX (DWx.t (dwx_or (dtx_cmpR (o_neA hr) (de_var 12) (dex_call1 g__law_boarded (Room.mono hr (by decide)) tk (de_var 1) (de_var 11))) (dwx_or1 (DT.x (dt_tru (DE.r (de_isi kn_bool (fx.z_isinstance) (fx.z_bool) (by decide +kernel) (DE.r (de_var 12))))))))) (dss_one (ds_ret de_bl)) dss_nil)
  (dss_cons (ds_if (DW.t (dw_or (dt_cmp (o_neA hr) (DE.r (de_methN0 3 fx.bcls g_Board_stand (Room.mono hr (by decide)) tk)) (DE.r (de_itemA hr (dr_fldS 4 0 hr) (DE.r (de_neg (DE.r de_int)))))) (dw_or1 (dt_cmp (o_neA hr) (DF.r (df_methF 3 fx.bcls g_Board_done (Room.mono hr (by decide)) tk)) (dr_fldS 4 1 hr))))) (dss_one (ds_ret de_bl)) dss_nil)
  (dss_one (ds_if (dt_cmp (o_neA hr) (DF.r (df_methF 3 fx.bcls g_Board_can (Room.mono hr (by decide)) tk)) (DF.r (df_lc [("at", 8), ("other", 9)] sc_law.nd (di_any (de_callA g__law_moves (Room.mono hr (by decide)) tk (da_cons (de_var 1) (da_cons (de_itemA hr (dr_fldS 4 0 hr) (DE.r (de_neg (DE.r de_int)))) da_nil)))) (blkOk_by (by kernel_rfl)) (fun s0 H0 C0 cl0 fp0 => (dgw_tup (dgsw_cons (dgw_name 8 sc_law.nd) (dgsw_cons (dgw_name 9 sc_law.nd) dgsw_nil)))) (fun s0 H0 C0 cl0 fp0 => dts_nil) (fun s0 H0 C0 cl0 fp0 => (de_var 8))))) (dss_one (ds_ret de_bl)) dss_nil))))))))))
  (dss_cons (ds_set 13 sc_law.nd (de_itemA hr (DF.r (df_lst (da_cons de_non (da_cons (de_neg (DE.r de_int)) (da_cons de_int (da_cons de_bl (da_cons de_str (da_cons (de_tup (da_cons de_int da_nil)) da_nil)))))))) (DE.r (de_op o_mod (DE.r (de_callA g__law_cell (Room.mono hr (by decide)) tk (da_cons (de_var 0) (da_cons de_int da_nil)))) (DE.r de_int)))))
  (dss_one (ds_retX (dex_and (dex_cmp (o_eqA hr) (dex_call0 g__law_board (Room.mono hr (by decide)) tk (de_tup (da_cons de_str (da_cons (de_var 13) da_nil)))) (DE.r de_str)) (de_one (de_cmp (o_eqA hr) (DE.r (de_methN0 3 fx.bcls g_Board_stand (Room.mono hr (by decide)) tk)) (DE.r (de_itemA hr (dr_fldS 4 0 hr) (DE.r (de_neg (DE.r de_int))))))))))))))))
theorem d_all (fx : Fx cls K mg) : DefX cls P w K mg base "law" s_law 8 ["script"] m_law := by
  have g__law_seed : Def cls P w K mg base "_law_seed" 1 m__law_seed := d__law_seed fx 
  have g__law_cell : Def cls P w K mg base "_law_cell" 1 m__law_cell := d__law_cell fx 
  have g__law_world : Def cls P w K mg base "_law_world" 2 m__law_world := d__law_world fx g__law_seed g__law_cell
  have g__law_pick : Def cls P w K mg base "_law_pick" 1 m__law_pick := d__law_pick fx 
  have g__law_stand : Def cls P w K mg base "_law_stand" 2 m__law_stand := d__law_stand fx g__law_pick g__law_seed
  have g__law_mix : Def cls P w K mg base "_law_mix" 1 m__law_mix := d__law_mix fx 
  have g__law_put : Def cls P w K mg base "_law_put" 1 m__law_put := d__law_put fx 
  have g__law_start : Def cls P w K mg base "_law_start" 3 m__law_start := d__law_start fx g__law_stand g__law_seed g__law_cell g__law_mix g__law_put
  have g_is_within : Def cls P w K mg base "is_within" 1 m_is_within := d_is_within fx 
  have g_is_jump : Def cls P w K mg base "is_jump" 2 m_is_jump := d_is_jump fx g_is_within
  have g_is_world : Def cls P w K mg base "is_world" 3 m_is_world := d_is_world fx g_is_within g_is_jump
  have g_look : Def cls P w K mg base "look" 4 m_look := d_look fx g_is_world
  have g_is_stand : Def cls P w K mg base "is_stand" 1 m_is_stand := d_is_stand fx 
  have g_look_stand : Def cls P w K mg base "look_stand" 5 m_look_stand := d_look_stand fx g_look g_is_stand
  have g_Board_init : DefJ cls P w K mg base 6 m_look_stand := d_Board_init fx g_look_stand
  have g__law_steps : Def cls P w K mg base "_law_steps" 2 m__law_steps := d__law_steps fx g__law_put
  have g__law_moves : Def cls P w K mg base "_law_moves" 3 m__law_moves := d__law_moves fx g__law_steps
  have g_has : Def cls P w K mg base "has" 1 m_has := d_has fx 
  have g_put : Def cls P w K mg base "put" 1 m_put := d_put fx 
  have g_Board_go : DefXm cls P w K mg base "go" 2 x_Board_go := d_Board_go fx g_put
  have g_Board_jump : DefXm cls P w K mg base "jump" 3 x_Board_jump := d_Board_jump fx g_has g_is_within g_Board_go
  have g_Board_back : DefXm cls P w K mg base "back" 1 x_Board_back := d_Board_back fx 
  have g_Board_again : DefXm cls P w K mg base "again" 3 x_Board_again := d_Board_again fx g_Board_go
  have g__law_board : DefXf cls P w K mg base "_law_board" 4 0 x__law_board := d__law_board fx g_Board_jump g_Board_back g_Board_again
  have g__law_in : Def cls P w K mg base "_law_in" 1 m__law_in := d__law_in fx 
  have g__law_boarded : DefXf cls P w K mg base "_law_boarded" 4 1 x__law_boarded := d__law_boarded fx g__law_moves g__law_in
  have g_Board_done : DefBF cls P w K mg base "done" 1 m_Board_done := d_Board_done fx 
  have g_Board_stand : DefB cls P w K mg base "stand" 1 m_Board_stand := d_Board_stand fx 
  have g_moves_of : Def cls P w K mg base "moves_of" 2 m_moves_of := d_moves_of fx g_has g_put
  have g_Board_can : DefBF cls P w K mg base "can" 3 m_Board_can := d_Board_can fx g_moves_of
  exact d_law fx g__law_world g__law_start g_Board_init g__law_mix g__law_cell g__law_seed g__law_moves g__law_pick g__law_board g__law_boarded g_Board_done g_Board_stand g_Board_can
end
end Mi

namespace Mi
open PySem PySem.Spec PyProof.Rows L2
theorem facts {P : Program} {w : World} {K : PySem.W.Frag} {h : Heap} {mg : Str → Option Value} {f : Addr} (X : K.In h) (G : h.Ns mainGlobals mg) (hfa : mg ("law" : Str) = some (.ref f)) (c : He.SaysD faL fnL K) (hck : ck K = true) :
    ∃ fd : FuncData, (∀ (s : Shared) (v : Value), BindsTo s fd ⟨[v], []⟩ [("script", v)]) ∧ ∀ base : Heap, FnOk P w K mg base (L2.CX P w) 8 f fd ["script"] (spF K (clsK prL K) m_law) := by
  obtain ⟨fd__law_seed, F__law_seed⟩ := c.def_ 0 (d := dd__law_seed) rfl
  obtain ⟨fd__law_cell, F__law_cell⟩ := c.def_ 1 (d := dd__law_cell) rfl
  obtain ⟨fd__law_world, F__law_world⟩ := c.def_ 2 (d := dd__law_world) rfl
  obtain ⟨fd__law_pick, F__law_pick⟩ := c.def_ 3 (d := dd__law_pick) rfl
  obtain ⟨fd__law_stand, F__law_stand⟩ := c.def_ 4 (d := dd__law_stand) rfl
  obtain ⟨fd__law_mix, F__law_mix⟩ := c.def_ 5 (d := dd__law_mix) rfl
  obtain ⟨fd__law_put, F__law_put⟩ := c.def_ 6 (d := dd__law_put) rfl
  obtain ⟨fd__law_start, F__law_start⟩ := c.def_ 7 (d := dd__law_start) rfl
  obtain ⟨fd_is_within, F_is_within⟩ := c.def_ 8 (d := dd_is_within) rfl
  obtain ⟨fd_is_jump, F_is_jump⟩ := c.def_ 9 (d := dd_is_jump) rfl
  obtain ⟨fd_is_world, F_is_world⟩ := c.def_ 10 (d := dd_is_world) rfl
  obtain ⟨fd_look, F_look⟩ := c.def_ 11 (d := dd_look) rfl
  obtain ⟨fd_is_stand, F_is_stand⟩ := c.def_ 12 (d := dd_is_stand) rfl
  obtain ⟨fd_look_stand, F_look_stand⟩ := c.def_ 13 (d := dd_look_stand) rfl
  obtain ⟨fd_Board_init, F_Board_init⟩ := c.def_ 14 (d := dd_Board_init) rfl
  obtain ⟨fd__law_steps, F__law_steps⟩ := c.def_ 15 (d := dd__law_steps) rfl
  obtain ⟨fd__law_moves, F__law_moves⟩ := c.def_ 16 (d := dd__law_moves) rfl
  obtain ⟨fd_has, F_has⟩ := c.def_ 17 (d := dd_has) rfl
  obtain ⟨fd_put, F_put⟩ := c.def_ 18 (d := dd_put) rfl
  obtain ⟨fd_Board_go, F_Board_go⟩ := c.def_ 19 (d := dd_Board_go) rfl
  obtain ⟨fd_Board_jump, F_Board_jump⟩ := c.def_ 20 (d := dd_Board_jump) rfl
  obtain ⟨fd_Board_back, F_Board_back⟩ := c.def_ 21 (d := dd_Board_back) rfl
  obtain ⟨fd_Board_again, F_Board_again⟩ := c.def_ 22 (d := dd_Board_again) rfl
  obtain ⟨fd__law_board, F__law_board⟩ := c.def_ 23 (d := dd__law_board) rfl
  obtain ⟨fd__law_in, F__law_in⟩ := c.def_ 24 (d := dd__law_in) rfl
  obtain ⟨fd__law_boarded, F__law_boarded⟩ := c.def_ 25 (d := dd__law_boarded) rfl
  obtain ⟨fd_Board_done, F_Board_done⟩ := c.def_ 26 (d := dd_Board_done) rfl
  obtain ⟨fd_Board_stand, F_Board_stand⟩ := c.def_ 27 (d := dd_Board_stand) rfl
  obtain ⟨fd_moves_of, F_moves_of⟩ := c.def_ 28 (d := dd_moves_of) rfl
  obtain ⟨fd_Board_can, F_Board_can⟩ := c.def_ 29 (d := dd_Board_can) rfl
  obtain ⟨fd_law, F_law⟩ := c.def_ 30 (d := dd_law) rfl
  have G__law_seed := He.glo_ok X G (c.fact 0 (f := .glo "_law_seed") rfl)
  have G__law_cell := He.glo_ok X G (c.fact 1 (f := .glo "_law_cell") rfl)
  have G__law_world := He.glo_ok X G (c.fact 2 (f := .glo "_law_world") rfl)
  have G__law_pick := He.glo_ok X G (c.fact 3 (f := .glo "_law_pick") rfl)
  have G__law_stand := He.glo_ok X G (c.fact 4 (f := .glo "_law_stand") rfl)
  have G__law_mix := He.glo_ok X G (c.fact 5 (f := .glo "_law_mix") rfl)
  have G__law_put := He.glo_ok X G (c.fact 6 (f := .glo "_law_put") rfl)
  have G__law_start := He.glo_ok X G (c.fact 7 (f := .glo "_law_start") rfl)
  have G_is_within := He.glo_ok X G (c.fact 8 (f := .glo "is_within") rfl)
  have G_is_jump := He.glo_ok X G (c.fact 9 (f := .glo "is_jump") rfl)
  have G_is_world := He.glo_ok X G (c.fact 10 (f := .glo "is_world") rfl)
  have G_look := He.glo_ok X G (c.fact 11 (f := .glo "look") rfl)
  have G_is_stand := He.glo_ok X G (c.fact 12 (f := .glo "is_stand") rfl)
  have G_look_stand := He.glo_ok X G (c.fact 13 (f := .glo "look_stand") rfl)
  have G_Board_init := He.glo_ok X G (c.fact 30 (f := .glo "Board") rfl)
  have G__law_steps := He.glo_ok X G (c.fact 14 (f := .glo "_law_steps") rfl)
  have G__law_moves := He.glo_ok X G (c.fact 15 (f := .glo "_law_moves") rfl)
  have G_has := He.glo_ok X G (c.fact 16 (f := .glo "has") rfl)
  have G_put := He.glo_ok X G (c.fact 17 (f := .glo "put") rfl)
  have G_Board_go := He.meth_ok (c.fact 18 (f := .meth "Board" "go") rfl)
  have G_Board_jump := He.meth_ok (c.fact 19 (f := .meth "Board" "jump") rfl)
  have G_Board_back := He.meth_ok (c.fact 20 (f := .meth "Board" "back") rfl)
  have G_Board_again := He.meth_ok (c.fact 21 (f := .meth "Board" "again") rfl)
  have G__law_board := He.glo_ok X G (c.fact 22 (f := .glo "_law_board") rfl)
  have G__law_in := He.glo_ok X G (c.fact 23 (f := .glo "_law_in") rfl)
  have G__law_boarded := He.glo_ok X G (c.fact 24 (f := .glo "_law_boarded") rfl)
  have G_Board_done := He.meth_ok (c.fact 25 (f := .meth "Board" "done") rfl)
  have G_Board_stand := He.meth_ok (c.fact 26 (f := .meth "Board" "stand") rfl)
  have G_moves_of := He.glo_ok X G (c.fact 27 (f := .glo "moves_of") rfl)
  have G_Board_can := He.meth_ok (c.fact 28 (f := .meth "Board" "can") rfl)
  have G_law := He.glo_ok X G (c.fact 29 (f := .glo "law") rfl)
  have fx : Fx (clsK prL K) K mg := {
    z_len := He.free_ok X G (c.fact 37 (f := .free "len") rfl),
    z_range := He.free_ok X G (c.fact 38 (f := .free "range") rfl),
    z_int := He.free_ok X G (c.fact 39 (f := .free "int") rfl),
    z_sorted := He.free_ok X G (c.fact 40 (f := .free "sorted") rfl),
    z_set := He.free_ok X G (c.fact 41 (f := .free "set") rfl),
    z_tuple := He.free_ok X G (c.fact 42 (f := .free "tuple") rfl),
    z_list := He.free_ok X G (c.fact 43 (f := .free "list") rfl),
    z_isinstance := He.free_ok X G (c.fact 44 (f := .free "isinstance") rfl),
    z_bool := He.free_ok X G (c.fact 45 (f := .free "bool") rfl),
    z_zip := He.free_ok X G (c.fact 46 (f := .free "zip") rfl),
    z_str := He.free_ok X G (c.fact 47 (f := .free "str") rfl),
    z_enumerate := He.free_ok X G (c.fact 48 (f := .free "enumerate") rfl),
    z_dict := He.free_ok X G (c.fact 49 (f := .free "dict") rfl),
    c_MOST_CELLS := He.int_ok X G (c.fact 50 (f := .int "MOST_CELLS" 12) rfl),
    c_MOST_JUMPS := He.int_ok X G (c.fact 51 (f := .int "MOST_JUMPS" 16) rfl),
    x_BadWorld := exF_of (by decide +kernel) X G (c.fact 53 (f := .glo "BadWorld") rfl) (c.fact 57 (f := .exc "BadWorld") rfl),
    x_BadStand := exF_of (by decide +kernel) X G (c.fact 54 (f := .glo "BadStand") rfl) (c.fact 58 (f := .exc "BadStand") rfl),
    x_BadJump := exF_of (by decide +kernel) X G (c.fact 55 (f := .glo "BadJump") rfl) (c.fact 59 (f := .exc "BadJump") rfl),
    x_Nothing := exF_of (by decide +kernel) X G (c.fact 56 (f := .glo "Nothing") rfl) (c.fact 60 (f := .exc "Nothing") rfl),
    gc_Nothing := gc_of (by decide +kernel) X G (c.fact 56 (f := .glo "Nothing") rfl),
    xm_Nothing := fun e he => by
      simp only [excL, List.mem_cons, List.not_mem_nil, or_false] at he
      rcases he with rfl | rfl | rfl | rfl | rfl | rfl | rfl | rfl | rfl | rfl
      · exact (exm_of (L := prL) (d := "JumpError") (c.fact 61 (f := .exm "JumpError" "Nothing" false) rfl) (by decide +kernel) (by decide +kernel)).trans (by decide +kernel)
      · exact (exm_of (L := prL) (d := "BadWorld") (c.fact 62 (f := .exm "BadWorld" "Nothing" false) rfl) (by decide +kernel) (by decide +kernel)).trans (by decide +kernel)
      · exact (exm_of (L := prL) (d := "BadStand") (c.fact 63 (f := .exm "BadStand" "Nothing" false) rfl) (by decide +kernel) (by decide +kernel)).trans (by decide +kernel)
      · exact (exm_of (L := prL) (d := "BadJump") (c.fact 64 (f := .exm "BadJump" "Nothing" false) rfl) (by decide +kernel) (by decide +kernel)).trans (by decide +kernel)
      · exact (exm_of (L := prL) (d := "JumpError") (c.fact 61 (f := .exm "JumpError" "Nothing" false) rfl) (by decide +kernel) (by decide +kernel)).trans (by decide +kernel)
      · exact (exm_of (L := prL) (d := "JumpError") (c.fact 61 (f := .exm "JumpError" "Nothing" false) rfl) (by decide +kernel) (by decide +kernel)).trans (by decide +kernel)
      · exact (exm_of (L := prL) (d := "JumpError") (c.fact 61 (f := .exm "JumpError" "Nothing" false) rfl) (by decide +kernel) (by decide +kernel)).trans (by decide +kernel)
      · exact (exm_of (L := prL) (d := "JumpError") (c.fact 61 (f := .exm "JumpError" "Nothing" false) rfl) (by decide +kernel) (by decide +kernel)).trans (by decide +kernel)
      · exact (exm_of (L := prL) (d := "JumpError") (c.fact 61 (f := .exm "JumpError" "Nothing" false) rfl) (by decide +kernel) (by decide +kernel)).trans (by decide +kernel)
      · exact (exm_of (L := prL) (d := "Nothing") (c.fact 65 (f := .exm "Nothing" "Nothing" true) rfl) (by decide +kernel) (by decide +kernel)).trans (by decide +kernel),
    gc_BadJump := gc_of (by decide +kernel) X G (c.fact 55 (f := .glo "BadJump") rfl),
    xm_BadJump := fun e he => by
      simp only [excL, List.mem_cons, List.not_mem_nil, or_false] at he
      rcases he with rfl | rfl | rfl | rfl | rfl | rfl | rfl | rfl | rfl | rfl
      · exact (exm_of (L := prL) (d := "JumpError") (c.fact 66 (f := .exm "JumpError" "BadJump" false) rfl) (by decide +kernel) (by decide +kernel)).trans (by decide +kernel)
      · exact (exm_of (L := prL) (d := "BadWorld") (c.fact 67 (f := .exm "BadWorld" "BadJump" false) rfl) (by decide +kernel) (by decide +kernel)).trans (by decide +kernel)
      · exact (exm_of (L := prL) (d := "BadStand") (c.fact 68 (f := .exm "BadStand" "BadJump" false) rfl) (by decide +kernel) (by decide +kernel)).trans (by decide +kernel)
      · exact (exm_of (L := prL) (d := "BadJump") (c.fact 69 (f := .exm "BadJump" "BadJump" true) rfl) (by decide +kernel) (by decide +kernel)).trans (by decide +kernel)
      · exact (exm_of (L := prL) (d := "JumpError") (c.fact 66 (f := .exm "JumpError" "BadJump" false) rfl) (by decide +kernel) (by decide +kernel)).trans (by decide +kernel)
      · exact (exm_of (L := prL) (d := "JumpError") (c.fact 66 (f := .exm "JumpError" "BadJump" false) rfl) (by decide +kernel) (by decide +kernel)).trans (by decide +kernel)
      · exact (exm_of (L := prL) (d := "JumpError") (c.fact 66 (f := .exm "JumpError" "BadJump" false) rfl) (by decide +kernel) (by decide +kernel)).trans (by decide +kernel)
      · exact (exm_of (L := prL) (d := "JumpError") (c.fact 66 (f := .exm "JumpError" "BadJump" false) rfl) (by decide +kernel) (by decide +kernel)).trans (by decide +kernel)
      · exact (exm_of (L := prL) (d := "JumpError") (c.fact 66 (f := .exm "JumpError" "BadJump" false) rfl) (by decide +kernel) (by decide +kernel)).trans (by decide +kernel)
      · exact (exm_of (L := prL) (d := "Nothing") (c.fact 70 (f := .exm "Nothing" "BadJump" false) rfl) (by decide +kernel) (by decide +kernel)).trans (by decide +kernel),
    bcls := ⟨He.cls_ok (c.fact 32 (f := .cls "Board") rfl), He.noat_ok (c.fact 33 (f := .noat "Board" "world") rfl), He.noat_ok (c.fact 34 (f := .noat "Board" "row") rfl), He.noat_ok (c.fact 35 (f := .noat "Board" "numbers") rfl), He.noat_ok (c.fact 36 (f := .noat "Board" "undone") rfl)⟩,
    r__law_seed := raw_of F__law_seed G__law_seed,
    r__law_cell := raw_of F__law_cell G__law_cell,
    r__law_world := raw_of F__law_world G__law_world,
    r__law_pick := raw_of F__law_pick G__law_pick,
    r__law_stand := raw_of F__law_stand G__law_stand,
    r__law_mix := raw_of F__law_mix G__law_mix,
    r__law_put := raw_of F__law_put G__law_put,
    r__law_start := raw_of F__law_start G__law_start,
    r_is_within := raw_of F_is_within G_is_within,
    r_is_jump := raw_of F_is_jump G_is_jump,
    r_is_world := raw_of F_is_world G_is_world,
    r_look := raw_of F_look G_look,
    r_is_stand := raw_of F_is_stand G_is_stand,
    r_look_stand := raw_of F_look_stand G_look_stand,
    r_Board_init := rawI_of F_Board_init (He.mkr_ok (c.fact 31 (f := .mkr "Board") rfl)) G_Board_init,
    r__law_steps := raw_of F__law_steps G__law_steps,
    r__law_moves := raw_of F__law_moves G__law_moves,
    r_has := raw_of F_has G_has,
    r_put := raw_of F_put G_put,
    r_Board_go := rawB_of F_Board_go G_Board_go,
    r_Board_jump := rawB_of F_Board_jump G_Board_jump,
    r_Board_back := rawB_of F_Board_back G_Board_back,
    r_Board_again := rawB_of F_Board_again G_Board_again,
    r__law_board := raw_of F__law_board G__law_board,
    r__law_in := raw_of F__law_in G__law_in,
    r__law_boarded := raw_of F__law_boarded G__law_boarded,
    r_Board_done := rawB_of F_Board_done G_Board_done,
    r_Board_stand := rawB_of F_Board_stand G_Board_stand,
    r_moves_of := raw_of F_moves_of G_moves_of,
    r_Board_can := rawB_of F_Board_can G_Board_can,
    r_law := raw_of F_law G_law }
  exact def_law F_law G_law hfa (fun _ _ _ _ _ _ us hl => match us, hl with | [_], _ => rfl) fun base => (d_all fx).ex
theorem law_holds (hm : ∀ ns : List Int, ns.length ≤ 63 → (∀ k ∈ ns, Builtin.Int.intBits k ≤ 1048576) → m_law [.list (ns.map PyData.int)] = .ok (.bool true)) : PySem.Challenge.rw_lastjump_k26_board.Holds := by
  w_on; o_law
  refine HandSHeadRun.head_any (r := PySem.W.OpenLaw.row PySem.Challenge.rw_lastjump_k26_board) (q := PySem.W.view (PySem.W.OpenLaw.row PySem.Challenge.rw_lastjump_k26_board).prog [35]) (H := hk) (ob := ob) (M := 6000) (loose := nmL) (d := HandSHeadRun.topDef (PySem.W.OpenLaw.row PySem.Challenge.rw_lastjump_k26_board).prog 35) (kwd := []) ob_eq
    (by kernel_rfl) (fun s => by kernel_rfl) run (by kernel_rfl) (by kernel_rfl) (by kernel_rfl) (by rfl) (by first | assumption | decide +kernel) (by decide +kernel) ⟨rfl, rfl, rfl, rfl, rfl, by decide +kernel⟩ ?hw ?hc
  case hw => w_witness2
  case hc =>
    refine walk_ofM (l := PySem.Challenge.rw_lastjump_k26_board) (n := 63) (k := 8) (x := "script") (CX := fun w => L2.CX PySem.Challenge.rw_lastjump_k26_board.prog w) rfl (by decide) (by kernel_rfl) ⟨rfl, by decide, by decide⟩ ?F (fun _ _ _ _ _ h => by obtain ⟨_, _, _, _, _, _, _, _, _, _, _, _, z⟩ := h; exact z)
    intro w mg fa h Y G hmg0
    obtain ⟨K, KX, ⟨c, hck⟩, nw⟩ := Y
    have hmg : mg ("law" : PySem.Str) = some (.ref fa) := by
      have e : (HandSHeadRun.topDef (PySem.W.OpenLaw.row PySem.Challenge.rw_lastjump_k26_board).prog 35).name = ("law" : PySem.Str) := by kernel_rfl
      rw [← e]
      exact hmg0
    obtain ⟨fd, hb, hF⟩ := facts (P := (PySem.Challenge.rw_lastjump_k26_board).prog) (w := w) KX G hmg c hck
    exact ⟨K, fd, spF K (clsK prL K) m_law, KX, hb, fun H a ns hl hB _ hS => law_endT hm H a ns hl hB (noW_tb nw H) hS, fun base _ _ => hF base⟩
end Mi

namespace Mi
open PySem PySem.Spec PyProof.Rows L2
abbrev q0 : Env → SR := (sSet 6 (eCall m__law_seed (aCons (eBin dAdd (eCall m__law_cell (aCons (eVar 0) (aCons (eBin dAdd (eC (.int 7)) (eBin dMod (eVar 5) (eC (.int 3)))) aNil))) (eBin dMulI (eC (.int 61)) (eVar 5))) (aCons (eVar 5) aNil))))
abbrev q1 : Env → SR := (sSet 7 (eBin dAdd (eLc [8, 9] (iD (eCall m__law_moves (aCons (eVar 1) (aCons (eBin dItem' (eFldS 4 0) (eNeg (eC (.int 1)))) aNil)))) (gTp (gsCons (gNm 8) (gsCons (gNm 9) gsNil)) 2) ftYes (eVar 8)) (eLst (aCons (eCall m__law_pick (aCons (eBin dFdiv (eVar 6) (eC (.int 7))) (aCons (eC (.int 17)) aNil))) aNil))))
abbrev q2 : Env → SR := (sSet 10 (eBin dItem' (eVar 7) (eCall m__law_pick (aCons (eCall m__law_seed (aCons (eVar 6) (aCons (eC (.int 1)) aNil))) (aCons (eBl (d1 lenD) (aCons (eVar 7) aNil)) aNil)))))
abbrev q3 : Env → SR := (sSet 11 (eBin dItem' (eLst (aCons (eTup (aCons (eC (.str (Str.ofString "jump"))) (aCons (eVar 10) aNil))) (aCons (eTup (aCons (eC (.str (Str.ofString "back"))) aNil)) (aCons (eTup (aCons (eC (.str (Str.ofString "jump"))) (aCons (eVar 10) aNil))) (aCons (eTup (aCons (eC (.str (Str.ofString "again"))) aNil)) aNil))))) (eCall m__law_pick (aCons (eCall m__law_seed (aCons (eVar 6) (aCons (eC (.int 2)) aNil))) (aCons (eC (.int 4)) aNil)))))
abbrev q4 : Env → SR := (sSetX 12 (xCall0 x__law_board 3 (eVar 11)))
abbrev q5 : Env → SR := (sIfX (xOr (xB (xBinR dNe (eVar 12) (xCall1 x__law_boarded 4 (eVar 1) (eVar 11)))) (xL (tTru (eIsi "bool" (eVar 12))))) (sRet (eC (.bool false))) sNil)
abbrev q6 : Env → SR := (sIf (tOr (tB (eBin dNe (eMethN m_Board_stand 3 aNil) (eBin dItem' (eFldS 4 0) (eNeg (eC (.int 1)))))) (tB (eBin dNe (eMethF m_Board_done 3) (eFldS 4 1)))) (sRet (eC (.bool false))) sNil)
abbrev q7 : Env → SR := (sIf (tB (eBin dNe (eMethF m_Board_can 3) (eLc [8, 9] (iD (eCall m__law_moves (aCons (eVar 1) (aCons (eBin dItem' (eFldS 4 0) (eNeg (eC (.int 1)))) aNil)))) (gTp (gsCons (gNm 8) (gsCons (gNm 9) gsNil)) 2) ftYes (eVar 8)))) (sRet (eC (.bool false))) sNil)
abbrev bd26 : Env → SR := sSeq q0 (sSeq q1 (sSeq q2 (sSeq q3 (sSeq q4 (sSeq q5 (sSeq q6 (q7)))))))
inductive Hi (w : Wd) : List Std → List Nat → Std → Prop
  | nil {t : Std} : t.length = w.n → Hi w [] [] t
  | snoc {ts : List Std} {ns : List Nat} {s t : Std} {n : Nat} : Hi w ts ns s → stepD w s (encN n) = some t → Hi w (ts ++ [s]) (ns ++ [n]) t
inductive Un (w : Wd) : List Nat → Std → Prop
  | nil {t : Std} : Un w [] t
  | snoc {us : List Nat} {t t' : Std} {n : Nat} : stepD w t (encN n) = some t' → Un w us t' → Un w (us ++ [n]) t
theorem step_len {w : Wd} (h : WOk w) {s t : Std} (hs : s.length = w.n) {d : Da} (e : stepD w s d = some t) : t.length = w.n := by
  obtain ⟨k, _, hm⟩ := stepD_mv e
  exact (moves_nx h s hs).2.2 _ hm
theorem Hi.len {w : Wd} (h : WOk w) {ts : List Std} {ns : List Nat} {t : Std} (q : Hi w ts ns t) : t.length = w.n := by
  induction q with
  | nil h => exact h
  | snoc _ e ih => exact step_len h ih e
theorem Hi.last {w : Wd} {ts : List Std} {ns : List Nat} {t : Std} (q : Hi w ts ns t) : (ts = [] ∧ ns = []) ∨ ∃ ts' ns' s n, ts = ts' ++ [s] ∧ ns = ns' ++ [n] ∧ Hi w ts' ns' s ∧ stepD w s (encN n) = some t := by
  cases q with
  | nil _ => exact .inl ⟨rfl, rfl⟩
  | snoc a b => exact .inr ⟨_, _, _, _, rfl, rfl, a, b⟩
theorem Un.last {w : Wd} {us : List Nat} {t : Std} (q : Un w us t) : us = [] ∨ ∃ us' n t', us = us' ++ [n] ∧ stepD w t (encN n) = some t' ∧ Un w us' t' := by
  cases q with
  | nil => exact .inl rfl
  | snoc a b => exact .inr ⟨_, _, _, rfl, a, b⟩
structure St26 (w : Wd) (m : Nat) (ts : List Std) (t : Std) (ns us : List Nat) : Prop where
  hi : Hi w ts ns t
  un : Un w us t
  l1 : ts.length ≤ m
  l2 : ns.length ≤ m
  l3 : us.length ≤ m
abbrev bB (w : Wd) (ts : List Std) (t : Std) (ns us : List Nat) : Cm := bo w (ts.map encS ++ [encS t]) (ns.map encN) (us.map encN)
abbrev bS' (ts : List Std) (t : Std) (ns us : List Nat) : Cm := dsC (ts.map encS ++ [encS t]) (ns.map encN) (us.map encN)
inductive Dd : Da → Prop
  | j (d : Da) : Dd (jD d)
  | b : Dd bD
  | a : Dd aD
theorem deed_ok {w : Wd} (h : WOk w) {m : Nat} (hm : m < 100) {ts : List Std} {t : Std} {ns us : List Nat} (q : St26 w m ts t ns us) {d : Da} (hd : Dd d) :
    ∃ v ts' t' ns' us', St26 w (m + 1) ts' t' ns' us' ∧ x__law_board (bB w ts t ns us) [d] = .ok v (bB w ts' t' ns' us') ∧ x__law_boarded (bS' ts t ns us) [encW w, d] = .ok v (bS' ts' t' ns' us') ∧ shD 8 v = true ∧ isTy "bool" (tyD v) = false ∧ (∀ x, d = jD x → stepD w t x = none → v = sJ ∧ t' = t ∧ ts' = ts ∧ ns' = ns ∧ us' = us) := by
  have ht := q.hi.len h
  obtain ⟨q1, q2, q3, q4, q5⟩ := q
  have a1 : (ts.map encS).length < 1000 := by rw [List.length_map]; omega
  have a2 : (ns.map encN).length < 1000 := by rw [List.length_map]; omega
  have a3 : (us.map encN).length < 1000 := by rw [List.length_map]; omega
  cases hd with
  | j d =>
    have e1 := jump_ok h ht (U := us.map encN) a1 a2 (d := d)
    have e2 := sb_jump h ht (U := us.map encN) a1 a2 d
    cases e : stepD w t d with
    | some t' =>
      rw [e] at e1 e2
      obtain ⟨n, rfl, _⟩ := stepD_mv e
      refine ⟨.int (pegs t' : Nat), ts ++ [t], t', ns ++ [n], [], ⟨.snoc q1 e, .nil, by simp; omega, by simp; omega, by simp⟩, ?_, ?_, rfl, by rw [isBl], fun x hx hn => ?_⟩
      · rw [lb_jump e1]
        simp only [bB, List.map_append, List.map_cons, List.map_nil]
      · rw [e2]
        simp only [bS', List.map_append, List.map_cons, List.map_nil]
      · cases hx
        rw [e] at hn
        cases hn
    | none =>
      rw [e] at e1 e2
      exact ⟨sJ, ts, t, ns, us, ⟨q1, q2, by omega, by omega, by omega⟩, lb_jump_er e1, e2, by kernel_rfl, by rw [isBl], fun x hx hn => ⟨rfl, rfl, rfl, rfl, rfl⟩⟩
  | b =>
    rcases q1.last with ⟨rfl, rfl⟩ | ⟨ts', ns', s, n, rfl, rfl, z1, z2⟩
    · exact ⟨sNt, [], t, [], us, ⟨q1, q2, by simp, by simp, by omega⟩, lb_back_er back_no, sb_back_no, by kernel_rfl, by rw [isBl], fun x hx => by cases hx⟩
    · refine ⟨encN n, ts', s, ns', us ++ [n], ⟨z1, .snoc z2 q2, by simp at q3; omega, by simp at q4; omega, by simp; omega⟩, ?_, ?_, rfl, by rw [isBl]; rfl, fun x hx => by cases hx⟩
      · have := back_ok (w := w) (R := ts'.map encS ++ [encS s]) (N := ns'.map encN) (t := encS t) (n := encN n) a3
        simp only [bB, List.map_append, List.map_cons, List.map_nil]
        exact lb_back this
      · have := sb_back (R := ts'.map encS ++ [encS s]) (ns := ns') (n := n) (s := encS t) (W := encW w) a3
        simp only [bS', List.map_append, List.map_cons, List.map_nil] at this ⊢
        exact this
  | a =>
    rcases q2.last with rfl | ⟨us', n, t', rfl, z1, z2⟩
    · exact ⟨sNt, ts, t, ns, [], ⟨q1, q2, by omega, by omega, by simp⟩, lb_again_er again_no, sb_again_no, by kernel_rfl, by rw [isBl], fun x hx => by cases hx⟩
    · refine ⟨encN n, ts ++ [t], t', ns ++ [n], us', ⟨.snoc q1 z1, z2, by simp; omega, by simp; omega, by simp at q5; omega⟩, ?_, ?_, rfl, by rw [isBl]; rfl, fun x hx => by cases hx⟩
      · have := again_ok h ht (U := us'.map encN) a1 a2 z1
        simp only [bB, List.map_append, List.map_cons, List.map_nil]
        exact lb_again this
      · have := sb_again h ht (us := us') a1 a2 z1
        simp only [bS', List.map_append, List.map_cons, List.map_nil] at this ⊢
        exact this
theorem noLs_N (l : List Nat) : noLs (l.map encN) = true := by
  induction l with
  | nil => rfl
  | cons n l ih => exact ih
theorem fldB (b : BS) (r : Env) (j : Nat) : eFld 0 j (.bd b :: r) = .ok (bFd b j) := rfl
theorem stand_B (W : Da) (R N U : List Da) (t : Std) : m_Board_stand ⟨W, R ++ [encS t], N, U⟩ [] = .ok (encS t) := by
  have l1 := lastD R (encS t)
  show outS (b_Board_stand [.bd ⟨W, R ++ [encS t], N, U⟩]) = _
  simp (config := { decide := false }) only [_root_.Mi.v0, _root_.Mi.vS, _root_.Mi.rd0f, _root_.Mi.rd0o, _root_.Mi.rdS, _root_.Mi.iteT, _root_.Mi.iteF, bS_ok, bS_er, bS_no, oNo, sSeq_ap, sSet_ap, sOwn_ap, sExp_ap, sRet_ap, sIf_ap, sNil_ap, eBin_ap, eCall_ap, aCons_ap, aNil_ap, eC_ap, tB_ap, isB_ap, tNot_ap, tAnd_ap, tOr_ap, tTru_ap, _root_.Mi.truB, _root_.Mi.truL, _root_.Mi.truT, _root_.Mi.truI, fn_ap, _root_.Mi.env2, oRt, oNx, oEr, sRaise_ap, _root_.Mi.R.ok_bind, _root_.Mi.R.er_bind, _root_.Mi.R.no_bind, _root_.Mi.R.calm_ok, _root_.Mi.R.calm_no, List.set_cons_zero, List.set_cons_succ, List.length_cons, List.length_nil, List.map_cons, List.map_nil, List.replicate_zero, List.replicate_succ, List.cons_append, List.nil_append, Nat.reduceAdd, Nat.reduceSub, Nat.reduceEqDiff, if_true, if_false, Bool.not_true, Bool.not_false, ite_true, ite_false, reduceIte, Nat.zero_add, eBl_ap, len_L, len_T, lt_I, le_I, gt_I, sFor_ap, iD_ap, itemsL, itemsT, itemsDi, sAug_ap, List.getElem?_cons_succ, List.getElem?_cons_zero, eLst_ap, eTup_ap, mkL_ap, mkT_ap, Nat.reduceLeDiff, frzA_ap, frzA, List.length_map, wipe_nil, wipe_cons, eFz_ap, isL_ap, _root_.Mi.w0, _root_.Mi.w1, add_I, sub_I, eqInt, neInt, within_ok, sAsg_ap, gTp_ap, gsCons_ap, gsNil_ap, gNm_ap, Option.bind_some, frz_ap, frzE, eAnd_ap, eOr_ap, isN_none, isN_list, eIf_ap, iR1_ap, itL0, itL1, itL2, itL3, itL4, itL5, itT0, itT1, itT2, itT3, itT4, itT5, eRep_ap, rep2, rep3, rep4, rep5, rep6, xNil_ap, xF_ap, xO_ap, sPar2_ap, eIsi_ap, many_str, never_str, b_Board_stand, fldB, bFd, ng1, l1]
  all_goals rfl
theorem done_B (W : Da) (R N U : List Da) : m_Board_done ⟨W, R, N, U⟩ [] = .ok (.list N) := by
  show outS (b_Board_done [.bd ⟨W, R, N, U⟩]) = _
  have e : d1 listD' [.list N] = .ok (.list N) := rfl
  simp (config := { decide := false }) only [_root_.Mi.v0, _root_.Mi.vS, _root_.Mi.rd0f, _root_.Mi.rd0o, _root_.Mi.rdS, _root_.Mi.iteT, _root_.Mi.iteF, bS_ok, bS_er, bS_no, oNo, sSeq_ap, sSet_ap, sOwn_ap, sExp_ap, sRet_ap, sIf_ap, sNil_ap, eBin_ap, eCall_ap, aCons_ap, aNil_ap, eC_ap, tB_ap, isB_ap, tNot_ap, tAnd_ap, tOr_ap, tTru_ap, _root_.Mi.truB, _root_.Mi.truL, _root_.Mi.truT, _root_.Mi.truI, fn_ap, _root_.Mi.env2, oRt, oNx, oEr, sRaise_ap, _root_.Mi.R.ok_bind, _root_.Mi.R.er_bind, _root_.Mi.R.no_bind, _root_.Mi.R.calm_ok, _root_.Mi.R.calm_no, List.set_cons_zero, List.set_cons_succ, List.length_cons, List.length_nil, List.map_cons, List.map_nil, List.replicate_zero, List.replicate_succ, List.cons_append, List.nil_append, Nat.reduceAdd, Nat.reduceSub, Nat.reduceEqDiff, if_true, if_false, Bool.not_true, Bool.not_false, ite_true, ite_false, reduceIte, Nat.zero_add, eBl_ap, len_L, len_T, lt_I, le_I, gt_I, sFor_ap, iD_ap, itemsL, itemsT, itemsDi, sAug_ap, List.getElem?_cons_succ, List.getElem?_cons_zero, eLst_ap, eTup_ap, mkL_ap, mkT_ap, Nat.reduceLeDiff, frzA_ap, frzA, List.length_map, wipe_nil, wipe_cons, eFz_ap, isL_ap, _root_.Mi.w0, _root_.Mi.w1, add_I, sub_I, eqInt, neInt, within_ok, sAsg_ap, gTp_ap, gsCons_ap, gsNil_ap, gNm_ap, Option.bind_some, frz_ap, frzE, eAnd_ap, eOr_ap, isN_none, isN_list, eIf_ap, iR1_ap, itL0, itL1, itL2, itL3, itL4, itL5, itT0, itT1, itT2, itT3, itT4, itT5, eRep_ap, rep2, rep3, rep4, rep5, rep6, xNil_ap, xF_ap, xO_ap, sPar2_ap, eIsi_ap, many_str, never_str, b_Board_done, fldB, bFd, e]
  all_goals rfl
theorem nums_M {w : Wd} {t : Std} {fi : Env → R (List Da)} {r : Env} {a b : Nat} {f : Env → R Da} (hi : fi r = .ok ((movesL w t).map encM)) (hl : (movesL w t).length ≤ 16) (hr : ∀ m : Mv, ∃ r1, (gTp (gsCons (gNm a) (gsCons (gNm b) gsNil)) 2) (encM m) (wipeE r [a, b]) = some r1 ∧ f r1 = .ok (encN m.1)) :
    eLc [a, b] fi (gTp (gsCons (gNm a) (gsCons (gNm b) gsNil)) 2) ftYes f r = .ok (.list ((movesL w t).map fun m => encN m.1)) :=
  lc_mapA encM hi (by omega) fun m _ => hr m
theorem can_B {w : Wd} (h : WOk w) (R N U : List Da) {t : Std} (ht : t.length = w.n) : m_Board_can ⟨encW w, R ++ [encS t], N, U⟩ [] = .ok (.list ((movesL w t).map fun m => encN m.1)) := by
  have l1 := lastD R (encS t)
  obtain ⟨m1, m2, _⟩ := moves_nx h t ht
  show outS (b_Board_can [.bd ⟨encW w, R ++ [encS t], N, U⟩, .un, .un]) = _
  have e : eLc [1, 2] (iD (eCall m_moves_of (aCons (eFld 0 0) (aCons (eBin dItem' (eFld 0 1) (eNeg (eC (.int 1)))) aNil)))) (gTp (gsCons (gNm 1) (gsCons (gNm 2) gsNil)) 2) ftYes (eVar 1) [.bd ⟨encW w, R ++ [encS t], N, U⟩, .un, .un] = .ok (.list ((movesL w t).map fun m => encN m.1)) := by
    refine nums_M ?_ m2 fun m => ⟨[.bd ⟨encW w, R ++ [encS t], N, U⟩, .fz (encN m.1), .fz (encS m.2)], rfl, rfl⟩
    have e0 : eCall m_moves_of (aCons (eFld 0 0) (aCons (eBin dItem' (eFld 0 1) (eNeg (eC (.int 1)))) aNil)) [.bd ⟨encW w, R ++ [encS t], N, U⟩, .un, .un] = .ok (.list ((movesL w t).map encM)) := by
      simp (config := { decide := false }) only [_root_.Mi.v0, _root_.Mi.vS, _root_.Mi.rd0f, _root_.Mi.rd0o, _root_.Mi.rdS, _root_.Mi.iteT, _root_.Mi.iteF, bS_ok, bS_er, bS_no, oNo, sSeq_ap, sSet_ap, sOwn_ap, sExp_ap, sRet_ap, sIf_ap, sNil_ap, eBin_ap, eCall_ap, aCons_ap, aNil_ap, eC_ap, tB_ap, isB_ap, tNot_ap, tAnd_ap, tOr_ap, tTru_ap, _root_.Mi.truB, _root_.Mi.truL, _root_.Mi.truT, _root_.Mi.truI, fn_ap, _root_.Mi.env2, oRt, oNx, oEr, sRaise_ap, _root_.Mi.R.ok_bind, _root_.Mi.R.er_bind, _root_.Mi.R.no_bind, _root_.Mi.R.calm_ok, _root_.Mi.R.calm_no, List.set_cons_zero, List.set_cons_succ, List.length_cons, List.length_nil, List.map_cons, List.map_nil, List.replicate_zero, List.replicate_succ, List.cons_append, List.nil_append, Nat.reduceAdd, Nat.reduceSub, Nat.reduceEqDiff, if_true, if_false, Bool.not_true, Bool.not_false, ite_true, ite_false, reduceIte, Nat.zero_add, eBl_ap, len_L, len_T, lt_I, le_I, gt_I, sFor_ap, iD_ap, itemsL, itemsT, itemsDi, sAug_ap, List.getElem?_cons_succ, List.getElem?_cons_zero, eLst_ap, eTup_ap, mkL_ap, mkT_ap, Nat.reduceLeDiff, frzA_ap, frzA, List.length_map, wipe_nil, wipe_cons, eFz_ap, isL_ap, _root_.Mi.w0, _root_.Mi.w1, add_I, sub_I, eqInt, neInt, within_ok, sAsg_ap, gTp_ap, gsCons_ap, gsNil_ap, gNm_ap, Option.bind_some, frz_ap, frzE, eAnd_ap, eOr_ap, isN_none, isN_list, eIf_ap, iR1_ap, itL0, itL1, itL2, itL3, itL4, itL5, itT0, itT1, itT2, itT3, itT4, itT5, eRep_ap, rep2, rep3, rep4, rep5, rep6, xNil_ap, xF_ap, xO_ap, sPar2_ap, eIsi_ap, many_str, never_str, fldB, bFd, ng1, l1, m1]
    unfold iD
    rw [e0]
    rfl
  unfold b_Board_can sRet eFz
  rw [e]
  rfl
theorem noLs_M (l : List Mv) : noLs (l.map fun m => encN m.1) = true := by
  induction l with
  | nil => rfl
  | cons n l ih => exact ih
theorem methN_ok {mm : BS → List Da → R Da} {i : Nat} {r : Env} {w : Da} {a b c : List Da} {d : Da} (h0 : r[i]? = some (.cm ⟨.bo, w, [a, b, c]⟩)) (h1 : mm ⟨w, a, b, c⟩ [] = .ok d) (h2 : noL d = true) : eMethN mm i aNil r = .ok d := by
  unfold eMethN
  rw [h0]
  show R.bind (mm ⟨w, a, b, c⟩ []) noLD = _
  rw [h1]
  show (if noL d then R.ok d else .no) = _
  rw [if_pos h2]
theorem methF_ok {mm : BS → List Da → R Da} {i : Nat} {r : Env} {w : Da} {a b c es : List Da} (h0 : r[i]? = some (.cm ⟨.bo, w, [a, b, c]⟩)) (h1 : mm ⟨w, a, b, c⟩ [] = .ok (.list es)) (h2 : noLs es = true) : eMethF mm i r = .ok (.list es) := by
  unfold eMethF
  rw [h0]
  show R.bind (mm ⟨w, a, b, c⟩ []) lsN = _
  rw [h1]
  show (if noLs es then R.ok (PyData.list es) else .no) = _
  rw [if_pos h2]
theorem call0_ok {mm : Cm → List Da → RM} {i : Nat} {f : Env → R Da} {r : Env} {c c' : Cm} {d v : Da} (h0 : r[i]? = some (.cm c)) (h1 : f r = .ok d) (h2 : mm c [d] = .ok v c') : xCall0 mm i f r = .ok v (r.set i (.cm c')) := by
  unfold xCall0
  rw [h0]
  dsimp only
  rw [h1]
  show xRM i r (mm c [d]) = _
  rw [h2]
  rfl
theorem call1_ok {mm : Cm → List Da → RM} {i : Nat} {f g : Env → R Da} {r : Env} {c c' : Cm} {d d2 v : Da} (h1 : f r = .ok d) (h0 : r[i]? = some (.cm c)) (h3 : g r = .ok d2) (h2 : mm c [d, d2] = .ok v c') : xCall1 mm i f g r = .ok v (r.set i (.cm c')) := by
  unfold xCall1
  rw [h1]
  show (match r[i]? with | some (.cm c) => (xR (g r) r).bind fun d2 r2 => xRM i r2 (mm c [d, d2]) | _ => .no) = _
  rw [h0]
  dsimp only
  rw [h3]
  show xRM i r (mm c [d, d2]) = _
  rw [h2]
  rfl
theorem fldS40 {a b c : List Da} {r : Env} {x0 x1 x2 x3 : Sl} (w : Da) : eFldS 4 0 (x0 :: x1 :: x2 :: x3 :: .cm ⟨.st, w, [a, b, c]⟩ :: r) = .ok (.list a) := rfl
theorem fldS41 {a b c : List Da} {r : Env} {x0 x1 x2 x3 : Sl} (w : Da) : eFldS 4 1 (x0 :: x1 :: x2 :: x3 :: .cm ⟨.st, w, [a, b, c]⟩ :: r) = .ok (.list b) := rfl
theorem wkS (l : List Mv) : (l.map fun m => encN m.1) = (l.map fun m => (m.1 : Int)).map PyData.int := by
  rw [List.map_map]
  rfl
theorem lmv {w : Wd} (h : WOk w) {t : Std} (ht : t.length = w.n) {R N' U : List Da} (N S : Da) (b : Cm) (A5 A6 A7 A8 A9 A10 A11 A12 A13 : Sl) : eLc [8, 9] (iD (eCall m__law_moves (aCons (eVar 1) (aCons (eBin dItem' (eFldS 4 0) (eNeg (eC (.int 1)))) aNil)))) (gTp (gsCons (gNm 8) (gsCons (gNm 9) gsNil)) 2) ftYes (eVar 8) [.fz N, .fz (encW w), .fz S, .cm b, .cm (dsC (R ++ [encS t]) N' U), A5, A6, A7, A8, A9, A10, A11, A12, A13] = .ok (.list ((movesL w t).map fun m => encN m.1)) := by
  have l1 := lastD R (encS t)
  refine nums_M ?_ (moves_nx h t ht).2.1 fun m => ⟨[.fz N, .fz (encW w), .fz S, .cm b, .cm (dsC (R ++ [encS t]) N' U), A5, A6, A7, .fz (encN m.1), .fz (encS m.2), A10, A11, A12, A13], rfl, rfl⟩
  have e0 : eCall m__law_moves (aCons (eVar 1) (aCons (eBin dItem' (eFldS 4 0) (eNeg (eC (.int 1)))) aNil)) [.fz N, .fz (encW w), .fz S, .cm b, .cm (dsC (R ++ [encS t]) N' U), A5, A6, A7, A8, A9, A10, A11, A12, A13] = .ok (.list ((movesL w t).map encM)) := by
    simp (config := { decide := false }) only [_root_.Mi.v0, _root_.Mi.vS, _root_.Mi.rd0f, _root_.Mi.rd0o, _root_.Mi.rdS, _root_.Mi.iteT, _root_.Mi.iteF, bS_ok, bS_er, bS_no, oNo, sSeq_ap, sSet_ap, sOwn_ap, sExp_ap, sRet_ap, sIf_ap, sNil_ap, eBin_ap, eCall_ap, aCons_ap, aNil_ap, eC_ap, tB_ap, isB_ap, tNot_ap, tAnd_ap, tOr_ap, tTru_ap, _root_.Mi.truB, _root_.Mi.truL, _root_.Mi.truT, _root_.Mi.truI, fn_ap, _root_.Mi.env2, oRt, oNx, oEr, sRaise_ap, _root_.Mi.R.ok_bind, _root_.Mi.R.er_bind, _root_.Mi.R.no_bind, _root_.Mi.R.calm_ok, _root_.Mi.R.calm_no, List.set_cons_zero, List.set_cons_succ, List.length_cons, List.length_nil, List.map_cons, List.map_nil, List.replicate_zero, List.replicate_succ, List.cons_append, List.nil_append, Nat.reduceAdd, Nat.reduceSub, Nat.reduceEqDiff, if_true, if_false, Bool.not_true, Bool.not_false, ite_true, ite_false, reduceIte, Nat.zero_add, eBl_ap, len_L, len_T, lt_I, le_I, gt_I, sFor_ap, iD_ap, itemsL, itemsT, itemsDi, sAug_ap, List.getElem?_cons_succ, List.getElem?_cons_zero, eLst_ap, eTup_ap, mkL_ap, mkT_ap, Nat.reduceLeDiff, frzA_ap, frzA, List.length_map, wipe_nil, wipe_cons, eFz_ap, isL_ap, _root_.Mi.w0, _root_.Mi.w1, add_I, sub_I, eqInt, neInt, within_ok, sAsg_ap, gTp_ap, gsCons_ap, gsNil_ap, gNm_ap, Option.bind_some, frz_ap, frzE, eAnd_ap, eOr_ap, isN_none, isN_list, eIf_ap, iR1_ap, itL0, itL1, itL2, itL3, itL4, itL5, itT0, itT1, itT2, itT3, itT4, itT5, eRep_ap, rep2, rep3, rep4, rep5, rep6, xNil_ap, xF_ap, xO_ap, sPar2_ap, eIsi_ap, many_str, never_str, fldS40, ng1, l1, law_moves_ok h ht]
  unfold iD
  rw [e0]
  rfl
abbrev e26 (N : Da) (w : Wd) (S : Da) (b s : Cm) (A5 A6 A7 A8 A9 A10 A11 A12 A13 : Sl) : Env := [.fz N, .fz (encW w), .fz S, .cm b, .cm s, A5, A6, A7, A8, A9, A10, A11, A12, A13]
theorem intL {l : List Int} {k : Nat} {i : Int} (h : l[k]? = some i) : dItem' (.list (l.map PyData.int)) (.int (k : Int)) = .ok (.int i) := item_L (by rw [List.getElem?_map, h]; rfl)
theorem iter26 (ns : List Int) {w : Wd} (h : WOk w) {S : Da} {m : Nat} (hm : m < 42) {ts : List Std} {t : Std} {us vs : List Nat} (q : St26 w m ts t us vs) (A6 A7 A8 A9 A10 A11 A12 A13 : Sl) :
    ∃ ts' t' us' vs' B6 B7 B8 B9 B10 B11 B12, St26 w (m + 1) ts' t' us' vs' ∧ bd26 (e26 (.list (ns.map PyData.int)) w S (bB w ts t us vs) (bS' ts t us vs) (.fz (encN m)) A6 A7 A8 A9 A10 A11 A12 A13) = .nx (e26 (.list (ns.map PyData.int)) w S (bB w ts' t' us' vs') (bS' ts' t' us' vs') (.fz (encN m)) B6 B7 B8 B9 B10 B11 B12 A13) := by
  have ht := q.hi.len h
  have cc : ∀ k : Nat, m__law_cell [.list (ns.map PyData.int), .int (k : Int)] = .ok (.int (ns.getD k 0)) := cellC ns
  generalize PyData.list (ns.map PyData.int) = N at *
  have l1 := lastD (ts.map encS) (encS t)
  obtain ⟨r3, hr3, er3⟩ := md (m : Int) 3 (by decide)
  have er3 : (m : Int) % 3 = (r3 : Int) := er3
  have c7 : m__law_cell [N, .int (7 + (r3 : Int))] = .ok (.int (ns.getD (7 + r3) 0)) := by
    have := cc (7 + r3)
    rw [show ((7 + r3 : Nat) : Int) = 7 + (r3 : Int) by omega] at this
    exact this
  let sd : Int := seedI (ns.getD (7 + r3) 0 + 61 * (m : Int)) (m : Int)
  have e0 : q0 (e26 N w S (bB w ts t us vs) (bS' ts t us vs) (.fz (encN m)) A6 A7 A8 A9 A10 A11 A12 A13) = .nx (e26 N w S (bB w ts t us vs) (bS' ts t us vs) (.fz (encN m)) (.fz (.int sd)) A7 A8 A9 A10 A11 A12 A13) := by
    simp (config := { decide := false }) only [_root_.Mi.v0, _root_.Mi.vS, _root_.Mi.rd0f, _root_.Mi.rd0o, _root_.Mi.rdS, _root_.Mi.iteT, _root_.Mi.iteF, bS_ok, bS_er, bS_no, oNo, sSeq_ap, sSet_ap, sOwn_ap, sExp_ap, sRet_ap, sIf_ap, sNil_ap, eBin_ap, eCall_ap, aCons_ap, aNil_ap, eC_ap, tB_ap, isB_ap, tNot_ap, tAnd_ap, tOr_ap, tTru_ap, _root_.Mi.truB, _root_.Mi.truL, _root_.Mi.truT, _root_.Mi.truI, fn_ap, _root_.Mi.env2, oRt, oNx, oEr, sRaise_ap, _root_.Mi.R.ok_bind, _root_.Mi.R.er_bind, _root_.Mi.R.no_bind, _root_.Mi.R.calm_ok, _root_.Mi.R.calm_no, List.set_cons_zero, List.set_cons_succ, List.length_cons, List.length_nil, List.map_cons, List.map_nil, List.replicate_zero, List.replicate_succ, List.cons_append, List.nil_append, Nat.reduceAdd, Nat.reduceSub, Nat.reduceEqDiff, if_true, if_false, Bool.not_true, Bool.not_false, ite_true, ite_false, reduceIte, Nat.zero_add, eBl_ap, len_L, len_T, lt_I, le_I, gt_I, sFor_ap, iD_ap, itemsL, itemsT, itemsDi, sAug_ap, List.getElem?_cons_succ, List.getElem?_cons_zero, eLst_ap, eTup_ap, mkL_ap, mkT_ap, Nat.reduceLeDiff, frzA_ap, frzA, List.length_map, wipe_nil, wipe_cons, eFz_ap, isL_ap, _root_.Mi.w0, _root_.Mi.w1, add_I, sub_I, eqInt, neInt, within_ok, sAsg_ap, gTp_ap, gsCons_ap, gsNil_ap, gNm_ap, Option.bind_some, frz_ap, frzE, eAnd_ap, eOr_ap, isN_none, isN_list, eIf_ap, iR1_ap, itL0, itL1, itL2, itL3, itL4, itL5, itT0, itT1, itT2, itT3, itT4, itT5, eRep_ap, rep2, rep3, rep4, rep5, rep6, xNil_ap, xF_ap, xO_ap, sPar2_ap, eIsi_ap, many_str, never_str, q0, e26, encN, mod_ok (show (0 : Int) < 3 by decide), er3, c7, mul_ok (.inl (by decide) : (-(2 ^ 64) < (61 : Int) ∧ (61 : Int) < 2 ^ 64) ∨ (-(2 ^ 64) < (m : Int) ∧ (m : Int) < 2 ^ 64)), seed_ok]
    all_goals rfl
  let L : List Int := ((movesL w t).map fun m => (m.1 : Int)) ++ [sd / 7 / 97 % 17]
  have e1 : q1 (e26 N w S (bB w ts t us vs) (bS' ts t us vs) (.fz (encN m)) (.fz (.int sd)) A7 A8 A9 A10 A11 A12 A13) = .nx (e26 N w S (bB w ts t us vs) (bS' ts t us vs) (.fz (encN m)) (.fz (.int sd)) (.fz (.list (L.map PyData.int))) A8 A9 A10 A11 A12 A13) := by
    have a1 := lmv h ht (R := ts.map encS) (N' := us.map encN) (U := vs.map encN) N S (bB w ts t us vs) (.fz (encN m)) (.fz (.int sd)) A7 A8 A9 A10 A11 A12 A13
    have ml := (moves_nx h t ht).2.1
    have a2 : dAdd (.list ((movesL w t).map fun m => encN m.1)) (.list [.int (sd / 7 / 97 % 17)]) = .ok (.list (L.map PyData.int)) := by
      rw [addL (by simp; omega), wkS]
      simp only [L, List.map_append, List.map_cons, List.map_nil]
    have pk := pick_ok (sd / 7) 17 (by decide)
    generalize sd = sd at *
    simp (config := { decide := false }) only [_root_.Mi.v0, _root_.Mi.vS, _root_.Mi.rd0f, _root_.Mi.rd0o, _root_.Mi.rdS, _root_.Mi.iteT, _root_.Mi.iteF, bS_ok, bS_er, bS_no, oNo, sSeq_ap, sSet_ap, sOwn_ap, sExp_ap, sRet_ap, sIf_ap, sNil_ap, eBin_ap, eCall_ap, aCons_ap, aNil_ap, eC_ap, tB_ap, isB_ap, tNot_ap, tAnd_ap, tOr_ap, tTru_ap, _root_.Mi.truB, _root_.Mi.truL, _root_.Mi.truT, _root_.Mi.truI, fn_ap, _root_.Mi.env2, oRt, oNx, oEr, sRaise_ap, _root_.Mi.R.ok_bind, _root_.Mi.R.er_bind, _root_.Mi.R.no_bind, _root_.Mi.R.calm_ok, _root_.Mi.R.calm_no, List.set_cons_zero, List.set_cons_succ, List.length_cons, List.length_nil, List.map_cons, List.map_nil, List.replicate_zero, List.replicate_succ, List.cons_append, List.nil_append, Nat.reduceAdd, Nat.reduceSub, Nat.reduceEqDiff, if_true, if_false, Bool.not_true, Bool.not_false, ite_true, ite_false, reduceIte, Nat.zero_add, eBl_ap, len_L, len_T, lt_I, le_I, gt_I, sFor_ap, iD_ap, itemsL, itemsT, itemsDi, sAug_ap, List.getElem?_cons_succ, List.getElem?_cons_zero, eLst_ap, eTup_ap, mkL_ap, mkT_ap, Nat.reduceLeDiff, frzA_ap, frzA, List.length_map, wipe_nil, wipe_cons, eFz_ap, isL_ap, _root_.Mi.w0, _root_.Mi.w1, add_I, sub_I, eqInt, neInt, within_ok, sAsg_ap, gTp_ap, gsCons_ap, gsNil_ap, gNm_ap, Option.bind_some, frz_ap, frzE, eAnd_ap, eOr_ap, isN_none, isN_list, eIf_ap, iR1_ap, itL0, itL1, itL2, itL3, itL4, itL5, itT0, itT1, itT2, itT3, itT4, itT5, eRep_ap, rep2, rep3, rep4, rep5, rep6, xNil_ap, xF_ap, xO_ap, sPar2_ap, eIsi_ap, many_str, never_str, q1, e26, a1, fdiv_ok (show (0 : Int) < 7 ∧ (7 : Int) < 1073741824 by decide), pk, a2]
    all_goals rfl
  have Lp : 0 < L.length := by simp [L]
  obtain ⟨k2, hk2, ek2⟩ := md (seedI sd 1 / 97) L.length Lp
  obtain ⟨x, hx⟩ : ∃ x, L[k2]? = some x := ⟨_, List.getElem?_eq_getElem hk2⟩
  have e2 : q2 (e26 N w S (bB w ts t us vs) (bS' ts t us vs) (.fz (encN m)) (.fz (.int sd)) (.fz (.list (L.map PyData.int))) A8 A9 A10 A11 A12 A13) = .nx (e26 N w S (bB w ts t us vs) (bS' ts t us vs) (.fz (encN m)) (.fz (.int sd)) (.fz (.list (L.map PyData.int))) A8 A9 (.fz (.int x)) A11 A12 A13) := by
    have a1 : d1 lenD [.list (L.map PyData.int)] = .ok (.int (L.length : Int)) := by rw [len_L, List.length_map]
    have a2 : m__law_pick [.int (seedI sd 1), .int (L.length : Int)] = .ok (.int (k2 : Int)) := by rw [pick_ok _ _ (by omega), ek2]
    have a3 := intL hx
    generalize L = L at *
    generalize sd = sd at *
    simp (config := { decide := false }) only [_root_.Mi.v0, _root_.Mi.vS, _root_.Mi.rd0f, _root_.Mi.rd0o, _root_.Mi.rdS, _root_.Mi.iteT, _root_.Mi.iteF, bS_ok, bS_er, bS_no, oNo, sSeq_ap, sSet_ap, sOwn_ap, sExp_ap, sRet_ap, sIf_ap, sNil_ap, eBin_ap, eCall_ap, aCons_ap, aNil_ap, eC_ap, tB_ap, isB_ap, tNot_ap, tAnd_ap, tOr_ap, tTru_ap, _root_.Mi.truB, _root_.Mi.truL, _root_.Mi.truT, _root_.Mi.truI, fn_ap, _root_.Mi.env2, oRt, oNx, oEr, sRaise_ap, _root_.Mi.R.ok_bind, _root_.Mi.R.er_bind, _root_.Mi.R.no_bind, _root_.Mi.R.calm_ok, _root_.Mi.R.calm_no, List.set_cons_zero, List.set_cons_succ, List.length_cons, List.length_nil, List.map_cons, List.map_nil, List.replicate_zero, List.replicate_succ, List.cons_append, List.nil_append, Nat.reduceAdd, Nat.reduceSub, Nat.reduceEqDiff, if_true, if_false, Bool.not_true, Bool.not_false, ite_true, ite_false, reduceIte, Nat.zero_add, eBl_ap, len_L, len_T, lt_I, le_I, gt_I, sFor_ap, iD_ap, itemsL, itemsT, itemsDi, sAug_ap, List.getElem?_cons_succ, List.getElem?_cons_zero, eLst_ap, eTup_ap, mkL_ap, mkT_ap, Nat.reduceLeDiff, frzA_ap, frzA, List.length_map, wipe_nil, wipe_cons, eFz_ap, isL_ap, _root_.Mi.w0, _root_.Mi.w1, add_I, sub_I, eqInt, neInt, within_ok, sAsg_ap, gTp_ap, gsCons_ap, gsNil_ap, gNm_ap, Option.bind_some, frz_ap, frzE, eAnd_ap, eOr_ap, isN_none, isN_list, eIf_ap, iR1_ap, itL0, itL1, itL2, itL3, itL4, itL5, itT0, itT1, itT2, itT3, itT4, itT5, eRep_ap, rep2, rep3, rep4, rep5, rep6, xNil_ap, xF_ap, xO_ap, sPar2_ap, eIsi_ap, many_str, never_str, q2, e26, seed_ok, a1, a2, a3]
    all_goals rfl
  obtain ⟨k3, hk3, ek3⟩ := md (seedI sd 2 / 97) 4 (by decide)
  have pk3 : m__law_pick [.int (seedI sd 2), .int 4] = .ok (.int (k3 : Int)) := by rw [pick_ok _ _ (by decide)]; exact congrArg (fun z => R.ok (PyData.int z)) ek3
  obtain ⟨d, hd, ed⟩ : ∃ d, Dd d ∧ dItem' (.list [jD (.int x), bD, jD (.int x), aD]) (.int (k3 : Int)) = .ok d := by
    match k3, hk3 with
    | 0, _ => exact ⟨_, .j _, rfl⟩
    | 1, _ => exact ⟨_, .b, rfl⟩
    | 2, _ => exact ⟨_, .j _, rfl⟩
    | 3, _ => exact ⟨_, .a, rfl⟩
  have e3 : q3 (e26 N w S (bB w ts t us vs) (bS' ts t us vs) (.fz (encN m)) (.fz (.int sd)) (.fz (.list (L.map PyData.int))) A8 A9 (.fz (.int x)) A11 A12 A13) = .nx (e26 N w S (bB w ts t us vs) (bS' ts t us vs) (.fz (encN m)) (.fz (.int sd)) (.fz (.list (L.map PyData.int))) A8 A9 (.fz (.int x)) (.fz d) A12 A13) := by
    generalize L = L at *
    generalize sd = sd at *
    simp (config := { decide := false }) only [_root_.Mi.v0, _root_.Mi.vS, _root_.Mi.rd0f, _root_.Mi.rd0o, _root_.Mi.rdS, _root_.Mi.iteT, _root_.Mi.iteF, bS_ok, bS_er, bS_no, oNo, sSeq_ap, sSet_ap, sOwn_ap, sExp_ap, sRet_ap, sIf_ap, sNil_ap, eBin_ap, eCall_ap, aCons_ap, aNil_ap, eC_ap, tB_ap, isB_ap, tNot_ap, tAnd_ap, tOr_ap, tTru_ap, _root_.Mi.truB, _root_.Mi.truL, _root_.Mi.truT, _root_.Mi.truI, fn_ap, _root_.Mi.env2, oRt, oNx, oEr, sRaise_ap, _root_.Mi.R.ok_bind, _root_.Mi.R.er_bind, _root_.Mi.R.no_bind, _root_.Mi.R.calm_ok, _root_.Mi.R.calm_no, List.set_cons_zero, List.set_cons_succ, List.length_cons, List.length_nil, List.map_cons, List.map_nil, List.replicate_zero, List.replicate_succ, List.cons_append, List.nil_append, Nat.reduceAdd, Nat.reduceSub, Nat.reduceEqDiff, if_true, if_false, Bool.not_true, Bool.not_false, ite_true, ite_false, reduceIte, Nat.zero_add, eBl_ap, len_L, len_T, lt_I, le_I, gt_I, sFor_ap, iD_ap, itemsL, itemsT, itemsDi, sAug_ap, List.getElem?_cons_succ, List.getElem?_cons_zero, eLst_ap, eTup_ap, mkL_ap, mkT_ap, Nat.reduceLeDiff, frzA_ap, frzA, List.length_map, wipe_nil, wipe_cons, eFz_ap, isL_ap, _root_.Mi.w0, _root_.Mi.w1, add_I, sub_I, eqInt, neInt, within_ok, sAsg_ap, gTp_ap, gsCons_ap, gsNil_ap, gNm_ap, Option.bind_some, frz_ap, frzE, eAnd_ap, eOr_ap, isN_none, isN_list, eIf_ap, iR1_ap, itL0, itL1, itL2, itL3, itL4, itL5, itT0, itT1, itT2, itT3, itT4, itT5, eRep_ap, rep2, rep3, rep4, rep5, rep6, xNil_ap, xF_ap, xO_ap, sPar2_ap, eIsi_ap, many_str, never_str, q3, e26, seed_ok, pk3, ed]
    all_goals rfl
  obtain ⟨v, ts', t', us', vs', q', b1, b2, sv, nb, _⟩ := deed_ok h (by omega) q hd
  have ht' := q'.hi.len h
  refine ⟨ts', t', us', vs', .fz (.int sd), .fz (.list (L.map PyData.int)), A8, A9, .fz (.int x), .fz d, .fz v, q', ?_⟩
  refine seq_nx e0 (seq_nx e1 (seq_nx e2 (seq_nx e3 ?_)))
  generalize PyData.list (L.map PyData.int) = AL at *
  generalize sd = sd at *
  refine seq_nx (r' := e26 N w S (bB w ts' t' us' vs') (bS' ts t us vs) (.fz (encN m)) (.fz (.int sd)) (.fz AL) A8 A9 (.fz (.int x)) (.fz d) (.fz v) A13) ?_ ?_
  · unfold q4 sSetX
    rw [call0_ok (c := bB w ts t us vs) (d := d) rfl rfl b1]
    rfl
  refine seq_nx (r' := e26 N w S (bB w ts' t' us' vs') (bS' ts' t' us' vs') (.fz (encN m)) (.fz (.int sd)) (.fz AL) A8 A9 (.fz (.int x)) (.fz d) (.fz v) A13) ?_ ?_
  · have c1 := call1_ok (mm := x__law_boarded) (i := 4) (f := eVar 1) (g := eVar 11) (r := e26 N w S (bB w ts' t' us' vs') (bS' ts t us vs) (.fz (encN m)) (.fz (.int sd)) (.fz AL) A8 A9 (.fz (.int x)) (.fz d) (.fz v) A13) (c := bS' ts t us vs) (d := encW w) (d2 := d) rfl rfl rfl b2
    have c2 : xB (xBinR dNe (eVar 12) (xCall1 x__law_boarded 4 (eVar 1) (eVar 11))) (e26 N w S (bB w ts' t' us' vs') (bS' ts t us vs) (.fz (encN m)) (.fz (.int sd)) (.fz AL) A8 A9 (.fz (.int x)) (.fz d) (.fz v) A13) = .ok false (e26 N w S (bB w ts' t' us' vs') (bS' ts' t' us' vs') (.fz (encN m)) (.fz (.int sd)) (.fz AL) A8 A9 (.fz (.int x)) (.fz d) (.fz v) A13) := by
      unfold xB xBinR
      show RX.bind (RX.bind (xCall1 x__law_boarded 4 (eVar 1) (eVar 11) _) fun y r2 => xR (dNe v y).calm r2) _ = _
      rw [c1]
      show RX.bind (xR (dNe v v).calm _) _ = _
      rw [dNe_self sv]
      rfl
    have c3 : xL (tTru (eIsi "bool" (eVar 12))) (e26 N w S (bB w ts' t' us' vs') (bS' ts' t' us' vs') (.fz (encN m)) (.fz (.int sd)) (.fz AL) A8 A9 (.fz (.int x)) (.fz d) (.fz v) A13) = .ok false (e26 N w S (bB w ts' t' us' vs') (bS' ts' t' us' vs') (.fz (encN m)) (.fz (.int sd)) (.fz AL) A8 A9 (.fz (.int x)) (.fz d) (.fz v) A13) := by
      unfold xL
      have : tTru (eIsi "bool" (eVar 12)) (e26 N w S (bB w ts' t' us' vs') (bS' ts' t' us' vs') (.fz (encN m)) (.fz (.int sd)) (.fz AL) A8 A9 (.fz (.int x)) (.fz d) (.fz v) A13) = .ok false := by
        show R.bind (R.ok (PyData.bool (isTy "bool" (tyD v)))) truthD = _
        rw [nb]
        rfl
      rw [this]
      rfl
    have c4 : xOr (xB (xBinR dNe (eVar 12) (xCall1 x__law_boarded 4 (eVar 1) (eVar 11)))) (xL (tTru (eIsi "bool" (eVar 12)))) (e26 N w S (bB w ts' t' us' vs') (bS' ts t us vs) (.fz (encN m)) (.fz (.int sd)) (.fz AL) A8 A9 (.fz (.int x)) (.fz d) (.fz v) A13) = .ok false (e26 N w S (bB w ts' t' us' vs') (bS' ts' t' us' vs') (.fz (encN m)) (.fz (.int sd)) (.fz AL) A8 A9 (.fz (.int x)) (.fz d) (.fz v) A13) := by
      unfold xOr
      rw [c2]
      exact c3
    unfold q5 sIfX
    rw [c4]
    rfl
  have i1 := lastD (ts'.map encS) (encS t')
  have n1 := dNe_self (sh_S 8 t')
  have n2 := dNe_self (((EqE.N 7).L).sh us')
  have n3 : dNe (.list ((movesL w t').map fun m => encN m.1)) (.list ((movesL w t').map fun m => encN m.1)) = .ok (.bool false) := by
    refine dNe_self (sh_list (m := 7) fun d hd => ?_)
    obtain ⟨m, _, rfl⟩ := List.mem_map.mp hd
    rfl
  have p1 := methN_ok (mm := m_Board_stand) (i := 3) (r := e26 N w S (bB w ts' t' us' vs') (bS' ts' t' us' vs') (.fz (encN m)) (.fz (.int sd)) (.fz AL) A8 A9 (.fz (.int x)) (.fz d) (.fz v) A13) (w := encW w) rfl (stand_B (encW w) (ts'.map encS) (us'.map encN) (vs'.map encN) t') rfl
  have p2 := methF_ok (mm := m_Board_done) (i := 3) (r := e26 N w S (bB w ts' t' us' vs') (bS' ts' t' us' vs') (.fz (encN m)) (.fz (.int sd)) (.fz AL) A8 A9 (.fz (.int x)) (.fz d) (.fz v) A13) (w := encW w) rfl (done_B (encW w) (ts'.map encS ++ [encS t']) (us'.map encN) (vs'.map encN)) (noLs_N us')
  have p3 := methF_ok (mm := m_Board_can) (i := 3) (r := e26 N w S (bB w ts' t' us' vs') (bS' ts' t' us' vs') (.fz (encN m)) (.fz (.int sd)) (.fz AL) A8 A9 (.fz (.int x)) (.fz d) (.fz v) A13) (w := encW w) rfl (can_B h (ts'.map encS) (us'.map encN) (vs'.map encN) ht') (noLs_M _)
  refine seq_nx (r' := e26 N w S (bB w ts' t' us' vs') (bS' ts' t' us' vs') (.fz (encN m)) (.fz (.int sd)) (.fz AL) A8 A9 (.fz (.int x)) (.fz d) (.fz v) A13) ?_ ?_
  · dsimp only [e26] at p1 p2 ⊢
    simp (config := { decide := false }) only [_root_.Mi.v0, _root_.Mi.vS, _root_.Mi.rd0f, _root_.Mi.rd0o, _root_.Mi.rdS, _root_.Mi.iteT, _root_.Mi.iteF, bS_ok, bS_er, bS_no, oNo, sSeq_ap, sSet_ap, sOwn_ap, sExp_ap, sRet_ap, sIf_ap, sNil_ap, eBin_ap, eCall_ap, aCons_ap, aNil_ap, eC_ap, tB_ap, isB_ap, tNot_ap, tAnd_ap, tOr_ap, tTru_ap, _root_.Mi.truB, _root_.Mi.truL, _root_.Mi.truT, _root_.Mi.truI, fn_ap, _root_.Mi.env2, oRt, oNx, oEr, sRaise_ap, _root_.Mi.R.ok_bind, _root_.Mi.R.er_bind, _root_.Mi.R.no_bind, _root_.Mi.R.calm_ok, _root_.Mi.R.calm_no, List.set_cons_zero, List.set_cons_succ, List.length_cons, List.length_nil, List.map_cons, List.map_nil, List.replicate_zero, List.replicate_succ, List.cons_append, List.nil_append, Nat.reduceAdd, Nat.reduceSub, Nat.reduceEqDiff, if_true, if_false, Bool.not_true, Bool.not_false, ite_true, ite_false, reduceIte, Nat.zero_add, eBl_ap, len_L, len_T, lt_I, le_I, gt_I, sFor_ap, iD_ap, itemsL, itemsT, itemsDi, sAug_ap, List.getElem?_cons_succ, List.getElem?_cons_zero, eLst_ap, eTup_ap, mkL_ap, mkT_ap, Nat.reduceLeDiff, frzA_ap, frzA, List.length_map, wipe_nil, wipe_cons, eFz_ap, isL_ap, _root_.Mi.w0, _root_.Mi.w1, add_I, sub_I, eqInt, neInt, within_ok, sAsg_ap, gTp_ap, gsCons_ap, gsNil_ap, gNm_ap, Option.bind_some, frz_ap, frzE, eAnd_ap, eOr_ap, isN_none, isN_list, eIf_ap, iR1_ap, itL0, itL1, itL2, itL3, itL4, itL5, itT0, itT1, itT2, itT3, itT4, itT5, eRep_ap, rep2, rep3, rep4, rep5, rep6, xNil_ap, xF_ap, xO_ap, sPar2_ap, eIsi_ap, many_str, never_str, q6, p1, fldS40, ng1, i1, n1, p2, fldS41, n2]
    all_goals rfl
  · have a1 := lmv h ht' (R := ts'.map encS) (N' := us'.map encN) (U := vs'.map encN) N S (bB w ts' t' us' vs') (.fz (encN m)) (.fz (.int sd)) (.fz AL) A8 A9 (.fz (.int x)) (.fz d) (.fz v) A13
    dsimp only [e26] at p3 ⊢
    simp (config := { decide := false }) only [_root_.Mi.v0, _root_.Mi.vS, _root_.Mi.rd0f, _root_.Mi.rd0o, _root_.Mi.rdS, _root_.Mi.iteT, _root_.Mi.iteF, bS_ok, bS_er, bS_no, oNo, sSeq_ap, sSet_ap, sOwn_ap, sExp_ap, sRet_ap, sIf_ap, sNil_ap, eBin_ap, eCall_ap, aCons_ap, aNil_ap, eC_ap, tB_ap, isB_ap, tNot_ap, tAnd_ap, tOr_ap, tTru_ap, _root_.Mi.truB, _root_.Mi.truL, _root_.Mi.truT, _root_.Mi.truI, fn_ap, _root_.Mi.env2, oRt, oNx, oEr, sRaise_ap, _root_.Mi.R.ok_bind, _root_.Mi.R.er_bind, _root_.Mi.R.no_bind, _root_.Mi.R.calm_ok, _root_.Mi.R.calm_no, List.set_cons_zero, List.set_cons_succ, List.length_cons, List.length_nil, List.map_cons, List.map_nil, List.replicate_zero, List.replicate_succ, List.cons_append, List.nil_append, Nat.reduceAdd, Nat.reduceSub, Nat.reduceEqDiff, if_true, if_false, Bool.not_true, Bool.not_false, ite_true, ite_false, reduceIte, Nat.zero_add, eBl_ap, len_L, len_T, lt_I, le_I, gt_I, sFor_ap, iD_ap, itemsL, itemsT, itemsDi, sAug_ap, List.getElem?_cons_succ, List.getElem?_cons_zero, eLst_ap, eTup_ap, mkL_ap, mkT_ap, Nat.reduceLeDiff, frzA_ap, frzA, List.length_map, wipe_nil, wipe_cons, eFz_ap, isL_ap, _root_.Mi.w0, _root_.Mi.w1, add_I, sub_I, eqInt, neInt, within_ok, sAsg_ap, gTp_ap, gsCons_ap, gsNil_ap, gNm_ap, Option.bind_some, frz_ap, frzE, eAnd_ap, eOr_ap, isN_none, isN_list, eIf_ap, iR1_ap, itL0, itL1, itL2, itL3, itL4, itL5, itT0, itT1, itT2, itT3, itT4, itT5, eRep_ap, rep2, rep3, rep4, rep5, rep6, xNil_ap, xF_ap, xO_ap, sPar2_ap, eIsi_ap, many_str, never_str, q7, p3, a1, n3]
    all_goals rfl
theorem loop26 (ns : List Int) {w : Wd} (h : WOk w) (S : Da) (A13 : Sl) : ∀ (l : List Nat) (k : Nat), l = (List.range l.length).map (· + k) → k + l.length ≤ 41 → ∀ (ts : List Std) (t : Std) (us vs : List Nat) (A5 A6 A7 A8 A9 A10 A11 A12 : Sl), St26 w k ts t us vs →
    ∃ ts' t' us' vs' B5 B6 B7 B8 B9 B10 B11 B12, St26 w 41 ts' t' us' vs' ∧ loopF (gNm 5) bd26 (l.map encN) (e26 (.list (ns.map PyData.int)) w S (bB w ts t us vs) (bS' ts t us vs) A5 A6 A7 A8 A9 A10 A11 A12 A13) = .nx (e26 (.list (ns.map PyData.int)) w S (bB w ts' t' us' vs') (bS' ts' t' us' vs') B5 B6 B7 B8 B9 B10 B11 B12 A13)
  | [], k, _, hk, ts, t, us, vs, A5, A6, A7, A8, A9, A10, A11, A12, q => ⟨ts, t, us, vs, A5, A6, A7, A8, A9, A10, A11, A12, ⟨q.hi, q.un, by have := q.l1; simp at hk; omega, by have := q.l2; simp at hk; omega, by have := q.l3; simp at hk; omega⟩, rfl⟩
  | a :: l, k, hl, hk, ts, t, us, vs, A5, A6, A7, A8, A9, A10, A11, A12, q => by
    rw [List.length_cons, List.range_succ_eq_map, List.map_cons, List.map_map] at hl
    injection hl with ha hl
    have ha : a = k := by omega
    subst ha
    simp only [List.length_cons] at hk
    obtain ⟨ts1, t1, us1, vs1, B6, B7, B8, B9, B10, B11, B12, q1, e1⟩ := iter26 ns h (S := S) (m := a) (by omega) q A6 A7 A8 A9 A10 A11 A12 A13
    obtain ⟨ts2, t2, us2, vs2, C5, C6, C7, C8, C9, C10, C11, C12, z1, z2⟩ := loop26 ns h S A13 l (a + 1) (by
      rw [hl, List.length_map, List.length_range]
      refine List.map_congr_left fun x _ => ?_
      show Nat.succ x + a = x + (a + 1)
      omega) (by omega) ts1 t1 us1 vs1 (.fz (encN a)) B6 B7 B8 B9 B10 B11 B12 q1
    refine ⟨ts2, t2, us2, vs2, C5, C6, C7, C8, C9, C10, C11, C12, z1, ?_⟩
    rw [List.map_cons]
    have hl2 : loopF (gNm 5) bd26 (encN a :: l.map encN) (e26 (.list (ns.map PyData.int)) w S (bB w ts t us vs) (bS' ts t us vs) A5 A6 A7 A8 A9 A10 A11 A12 A13) = nextS (bd26 (e26 (.list (ns.map PyData.int)) w S (bB w ts t us vs) (bS' ts t us vs) (.fz (encN a)) A6 A7 A8 A9 A10 A11 A12 A13)) (loopF (gNm 5) bd26 (l.map encN)) := rfl
    rw [hl2, e1]
    exact z2
theorem odd26 {w : Wd} (h : WOk w) (t : Std) (c : Int) : ∃ x, stepD w t x = none ∧ ∀ ds, ds = [PyData.none, .int (-1), .int 16, .bool true, .str (Str.ofString "0"), .tuple [.int 0]] → dItem' (.list ds) (.int (c % 6)) = .ok x := by
  obtain ⟨a, ha, e⟩ := md c 6 (by decide)
  have e : c % 6 = (a : Int) := e
  rw [e]
  match a, ha with
  | 0, _ => exact ⟨.none, rfl, fun ds e => by subst e; rfl⟩
  | 1, _ => exact ⟨.int (-1), rfl, fun ds e => by subst e; rfl⟩
  | 2, _ =>
    refine ⟨.int 16, ?_, fun ds e => by subst e; rfl⟩
    show (match w.js[16]? with | some j => _ | none => none) = none
    rw [List.getElem?_eq_none h.len]
  | 3, _ => exact ⟨.bool true, rfl, fun ds e => by subst e; rfl⟩
  | 4, _ => exact ⟨_, rfl, fun ds e => by subst e; rfl⟩
  | 5, _ => exact ⟨_, rfl, fun ds e => by subst e; rfl⟩
theorem hm (ns : List Int) (_ : ns.length ≤ 63) (hB : ∀ k ∈ ns, Builtin.Int.intBits k ≤ 1048576) : m_law [.list (ns.map PyData.int)] = .ok (.bool true) := by
  obtain ⟨w, h, ew⟩ := law_world_ok ns 0
  obtain ⟨s, hs, es⟩ := start_ok ns 4 h
  have ew : m__law_world [.list (ns.map PyData.int), .int 0] = .ok (encW w) := ew
  have es : m__law_start [.list (ns.map PyData.int), .int 4, encW w] = .ok (encS s) := es
  have c6 : m__law_cell [.list (ns.map PyData.int), .int 6] = .ok (.int (ns.getD 6 0)) := cellC ns 6
  have c10 : m__law_cell [.list (ns.map PyData.int), .int 10] = .ok (.int (ns.getD 10 0)) := cellC ns 10
  obtain ⟨k, hk, ek⟩ := md ((ns.getD 6 0 * 48271 % 9949) ^ 3 % 9949) 41 (by decide)
  have mk : m__law_mix [.int (ns.getD 6 0), .int 9949, .int 41] = .ok (.int (k : Int)) := by
    rw [mix_ok _ (by decide)]
    exact congrArg (fun z => R.ok (PyData.int z)) ek
  have q0 : St26 w 0 [] s [] [] := ⟨.nil hs, .nil, Nat.le_refl _, Nat.le_refl _, Nat.le_refl _⟩
  obtain ⟨ts, t, us, vs, B5, B6, B7, B8, B9, B10, B11, B12, q, el⟩ := loop26 ns h (encS s) .un (List.range k) 0 (by rw [List.length_range]; simp) (by rw [List.length_range]; omega) [] s [] [] .un .un .un .un .un .un .un .un q0
  have ht := q.hi.len h
  obtain ⟨x, hx, ex⟩ := odd26 h t (ns.getD 10 0)
  have ex := ex _ rfl
  obtain ⟨v, ts', t', us', vs', _, b1, _, _, _, bj⟩ := deed_ok h (by decide) q (.j x)
  obtain ⟨j1, j2, j3, j4, j5⟩ := bj x rfl hx
  rw [j1, j2, j3, j4, j5] at b1
  generalize PyData.list (ns.map PyData.int) = N at *
  (refine fn_rt rfl ?_; rw [b_law_eq]; simp only [_root_.Mi.env2, List.map_cons, List.map_nil, List.length_cons, List.length_nil, List.replicate_zero, List.replicate_succ, List.cons_append, List.nil_append, Nat.reduceAdd, Nat.reduceSub, Nat.zero_add])
  refine seq_nx (r' := [.fz N, .fz (encW w), .un, .un, .un, .un, .un, .un, .un, .un, .un, .un, .un, .un]) ?_ ?_
  · simp (config := { decide := false }) only [_root_.Mi.v0, _root_.Mi.vS, _root_.Mi.rd0f, _root_.Mi.rd0o, _root_.Mi.rdS, _root_.Mi.iteT, _root_.Mi.iteF, bS_ok, bS_er, bS_no, oNo, sSeq_ap, sSet_ap, sOwn_ap, sExp_ap, sRet_ap, sIf_ap, sNil_ap, eBin_ap, eCall_ap, aCons_ap, aNil_ap, eC_ap, tB_ap, isB_ap, tNot_ap, tAnd_ap, tOr_ap, tTru_ap, _root_.Mi.truB, _root_.Mi.truL, _root_.Mi.truT, _root_.Mi.truI, fn_ap, _root_.Mi.env2, oRt, oNx, oEr, sRaise_ap, _root_.Mi.R.ok_bind, _root_.Mi.R.er_bind, _root_.Mi.R.no_bind, _root_.Mi.R.calm_ok, _root_.Mi.R.calm_no, List.set_cons_zero, List.set_cons_succ, List.length_cons, List.length_nil, List.map_cons, List.map_nil, List.replicate_zero, List.replicate_succ, List.cons_append, List.nil_append, Nat.reduceAdd, Nat.reduceSub, Nat.reduceEqDiff, if_true, if_false, Bool.not_true, Bool.not_false, ite_true, ite_false, reduceIte, Nat.zero_add, eBl_ap, len_L, len_T, lt_I, le_I, gt_I, sFor_ap, iD_ap, itemsL, itemsT, itemsDi, sAug_ap, List.getElem?_cons_succ, List.getElem?_cons_zero, eLst_ap, eTup_ap, mkL_ap, mkT_ap, Nat.reduceLeDiff, frzA_ap, frzA, List.length_map, wipe_nil, wipe_cons, eFz_ap, isL_ap, _root_.Mi.w0, _root_.Mi.w1, add_I, sub_I, eqInt, neInt, within_ok, sAsg_ap, gTp_ap, gsCons_ap, gsNil_ap, gNm_ap, Option.bind_some, frz_ap, frzE, eAnd_ap, eOr_ap, isN_none, isN_list, eIf_ap, iR1_ap, itL0, itL1, itL2, itL3, itL4, itL5, itT0, itT1, itT2, itT3, itT4, itT5, eRep_ap, rep2, rep3, rep4, rep5, rep6, xNil_ap, xF_ap, xO_ap, sPar2_ap, eIsi_ap, many_str, never_str, b_law_0, ew]
  refine seq_nx (r' := [.fz N, .fz (encW w), .fz (encS s), .un, .un, .un, .un, .un, .un, .un, .un, .un, .un, .un]) ?_ ?_
  · simp (config := { decide := false }) only [_root_.Mi.v0, _root_.Mi.vS, _root_.Mi.rd0f, _root_.Mi.rd0o, _root_.Mi.rdS, _root_.Mi.iteT, _root_.Mi.iteF, bS_ok, bS_er, bS_no, oNo, sSeq_ap, sSet_ap, sOwn_ap, sExp_ap, sRet_ap, sIf_ap, sNil_ap, eBin_ap, eCall_ap, aCons_ap, aNil_ap, eC_ap, tB_ap, isB_ap, tNot_ap, tAnd_ap, tOr_ap, tTru_ap, _root_.Mi.truB, _root_.Mi.truL, _root_.Mi.truT, _root_.Mi.truI, fn_ap, _root_.Mi.env2, oRt, oNx, oEr, sRaise_ap, _root_.Mi.R.ok_bind, _root_.Mi.R.er_bind, _root_.Mi.R.no_bind, _root_.Mi.R.calm_ok, _root_.Mi.R.calm_no, List.set_cons_zero, List.set_cons_succ, List.length_cons, List.length_nil, List.map_cons, List.map_nil, List.replicate_zero, List.replicate_succ, List.cons_append, List.nil_append, Nat.reduceAdd, Nat.reduceSub, Nat.reduceEqDiff, if_true, if_false, Bool.not_true, Bool.not_false, ite_true, ite_false, reduceIte, Nat.zero_add, eBl_ap, len_L, len_T, lt_I, le_I, gt_I, sFor_ap, iD_ap, itemsL, itemsT, itemsDi, sAug_ap, List.getElem?_cons_succ, List.getElem?_cons_zero, eLst_ap, eTup_ap, mkL_ap, mkT_ap, Nat.reduceLeDiff, frzA_ap, frzA, List.length_map, wipe_nil, wipe_cons, eFz_ap, isL_ap, _root_.Mi.w0, _root_.Mi.w1, add_I, sub_I, eqInt, neInt, within_ok, sAsg_ap, gTp_ap, gsCons_ap, gsNil_ap, gNm_ap, Option.bind_some, frz_ap, frzE, eAnd_ap, eOr_ap, isN_none, isN_list, eIf_ap, iR1_ap, itL0, itL1, itL2, itL3, itL4, itL5, itT0, itT1, itT2, itT3, itT4, itT5, eRep_ap, rep2, rep3, rep4, rep5, rep6, xNil_ap, xF_ap, xO_ap, sPar2_ap, eIsi_ap, many_str, never_str, b_law_1, es]
  refine seq_nx (r' := [.fz N, .fz (encW w), .fz (encS s), .cm (bB w [] s [] []), .un, .un, .un, .un, .un, .un, .un, .un, .un, .un]) ?_ ?_
  · have e1 : eMkC m_look_stand (eVar 1) (eVar 2) [.fz N, .fz (encW w), .fz (encS s), .un, .un, .un, .un, .un, .un, .un, .un, .un, .un, .un] = .ok (bB w [] s [] []) := by
      show ((m_look_stand [encW w, encS s]).bind fun _ => R.ok (bB w [] s [] [])) = _
      rw [look_stand_ok h hs]
      rfl
    unfold b_law_2 sSetC
    rw [e1]
    rfl
  refine seq_nx (r' := e26 N w (encS s) (bB w [] s [] []) (bS' [] s [] []) .un .un .un .un .un .un .un .un .un) rfl ?_
  refine seq_nx (r' := e26 N w (encS s) (bB w ts t us vs) (bS' ts t us vs) B5 B6 B7 B8 B9 B10 B11 B12 .un) ?_ ?_
  · have e1 : iR1 (eCall m__law_mix (aCons (eCall m__law_cell (aCons (eVar 0) (aCons (eC (.int 6)) aNil))) (aCons (eC (.int 9949)) (aCons (eC (.int 41)) aNil)))) (e26 N w (encS s) (bB w [] s [] []) (bS' [] s [] []) .un .un .un .un .un .un .un .un .un) = .ok ((List.range k).map encN) := by
      refine iR1_K ?_ (by omega)
      simp (config := { decide := false }) only [_root_.Mi.v0, _root_.Mi.vS, _root_.Mi.rd0f, _root_.Mi.rd0o, _root_.Mi.rdS, _root_.Mi.iteT, _root_.Mi.iteF, bS_ok, bS_er, bS_no, oNo, sSeq_ap, sSet_ap, sOwn_ap, sExp_ap, sRet_ap, sIf_ap, sNil_ap, eBin_ap, eCall_ap, aCons_ap, aNil_ap, eC_ap, tB_ap, isB_ap, tNot_ap, tAnd_ap, tOr_ap, tTru_ap, _root_.Mi.truB, _root_.Mi.truL, _root_.Mi.truT, _root_.Mi.truI, fn_ap, _root_.Mi.env2, oRt, oNx, oEr, sRaise_ap, _root_.Mi.R.ok_bind, _root_.Mi.R.er_bind, _root_.Mi.R.no_bind, _root_.Mi.R.calm_ok, _root_.Mi.R.calm_no, List.set_cons_zero, List.set_cons_succ, List.length_cons, List.length_nil, List.map_cons, List.map_nil, List.replicate_zero, List.replicate_succ, List.cons_append, List.nil_append, Nat.reduceAdd, Nat.reduceSub, Nat.reduceEqDiff, if_true, if_false, Bool.not_true, Bool.not_false, ite_true, ite_false, reduceIte, Nat.zero_add, eBl_ap, len_L, len_T, lt_I, le_I, gt_I, sFor_ap, iD_ap, itemsL, itemsT, itemsDi, sAug_ap, List.getElem?_cons_succ, List.getElem?_cons_zero, eLst_ap, eTup_ap, mkL_ap, mkT_ap, Nat.reduceLeDiff, frzA_ap, frzA, List.length_map, wipe_nil, wipe_cons, eFz_ap, isL_ap, _root_.Mi.w0, _root_.Mi.w1, add_I, sub_I, eqInt, neInt, within_ok, sAsg_ap, gTp_ap, gsCons_ap, gsNil_ap, gNm_ap, Option.bind_some, frz_ap, frzE, eAnd_ap, eOr_ap, isN_none, isN_list, eIf_ap, iR1_ap, itL0, itL1, itL2, itL3, itL4, itL5, itT0, itT1, itT2, itT3, itT4, itT5, eRep_ap, rep2, rep3, rep4, rep5, rep6, xNil_ap, xF_ap, xO_ap, sPar2_ap, eIsi_ap, many_str, never_str, e26, c6, mk]
    show sFor _ (gNm 5) bd26 _ = _
    unfold sFor
    rw [e1]
    exact el
  refine seq_nx (r' := e26 N w (encS s) (bB w ts t us vs) (bS' ts t us vs) B5 B6 B7 B8 B9 B10 B11 B12 (.fz x)) ?_ ?_
  · simp (config := { decide := false }) only [_root_.Mi.v0, _root_.Mi.vS, _root_.Mi.rd0f, _root_.Mi.rd0o, _root_.Mi.rdS, _root_.Mi.iteT, _root_.Mi.iteF, bS_ok, bS_er, bS_no, oNo, sSeq_ap, sSet_ap, sOwn_ap, sExp_ap, sRet_ap, sIf_ap, sNil_ap, eBin_ap, eCall_ap, aCons_ap, aNil_ap, eC_ap, tB_ap, isB_ap, tNot_ap, tAnd_ap, tOr_ap, tTru_ap, _root_.Mi.truB, _root_.Mi.truL, _root_.Mi.truT, _root_.Mi.truI, fn_ap, _root_.Mi.env2, oRt, oNx, oEr, sRaise_ap, _root_.Mi.R.ok_bind, _root_.Mi.R.er_bind, _root_.Mi.R.no_bind, _root_.Mi.R.calm_ok, _root_.Mi.R.calm_no, List.set_cons_zero, List.set_cons_succ, List.length_cons, List.length_nil, List.map_cons, List.map_nil, List.replicate_zero, List.replicate_succ, List.cons_append, List.nil_append, Nat.reduceAdd, Nat.reduceSub, Nat.reduceEqDiff, if_true, if_false, Bool.not_true, Bool.not_false, ite_true, ite_false, reduceIte, Nat.zero_add, eBl_ap, len_L, len_T, lt_I, le_I, gt_I, sFor_ap, iD_ap, itemsL, itemsT, itemsDi, sAug_ap, List.getElem?_cons_succ, List.getElem?_cons_zero, eLst_ap, eTup_ap, mkL_ap, mkT_ap, Nat.reduceLeDiff, frzA_ap, frzA, List.length_map, wipe_nil, wipe_cons, eFz_ap, isL_ap, _root_.Mi.w0, _root_.Mi.w1, add_I, sub_I, eqInt, neInt, within_ok, sAsg_ap, gTp_ap, gsCons_ap, gsNil_ap, gNm_ap, Option.bind_some, frz_ap, frzE, eAnd_ap, eOr_ap, isN_none, isN_list, eIf_ap, iR1_ap, itL0, itL1, itL2, itL3, itL4, itL5, itT0, itT1, itT2, itT3, itT4, itT5, eRep_ap, rep2, rep3, rep4, rep5, rep6, xNil_ap, xF_ap, xO_ap, sPar2_ap, eIsi_ap, many_str, never_str, b_law_5, e26, ng1, c10, mod_ok (show (0 : Int) < 6 by decide), ex]
    all_goals rfl
  have i1 := lastD (ts.map encS) (encS t)
  have p1 := methN_ok (mm := m_Board_stand) (i := 3) (r := e26 N w (encS s) (bB w ts t us vs) (bS' ts t us vs) B5 B6 B7 B8 B9 B10 B11 B12 (.fz x)) (w := encW w) rfl (stand_B (encW w) (ts.map encS) (us.map encN) (vs.map encN) t) rfl
  have c1 := call0_ok (mm := x__law_board) (i := 3) (f := eTup (aCons (eC (.str (Str.ofString "jump"))) (aCons (eVar 13) aNil))) (r := e26 N w (encS s) (bB w ts t us vs) (bS' ts t us vs) B5 B6 B7 B8 B9 B10 B11 B12 (.fz x)) (c := bB w ts t us vs) (d := jD x) rfl rfl b1
  have c2 : xBin dEq (xCall0 x__law_board 3 (eTup (aCons (eC (.str (Str.ofString "jump"))) (aCons (eVar 13) aNil)))) (eC (.str (Str.ofString "jump"))) (e26 N w (encS s) (bB w ts t us vs) (bS' ts t us vs) B5 B6 B7 B8 B9 B10 B11 B12 (.fz x)) = .ok (.bool true) (e26 N w (encS s) (bB w ts t us vs) (bS' ts t us vs) B5 B6 B7 B8 B9 B10 B11 B12 (.fz x)) := by
    unfold xBin
    rw [c1]
    show xR (dEq sJ sJ).calm _ = _
    rw [qJJ]
    rfl
  have c3 : eBin dEq (eMethN m_Board_stand 3 aNil) (eBin dItem' (eFldS 4 0) (eNeg (eC (.int 1)))) (e26 N w (encS s) (bB w ts t us vs) (bS' ts t us vs) B5 B6 B7 B8 B9 B10 B11 B12 (.fz x)) = .ok (.bool true) := by
    have n1 := dEq_self (sh_S 8 t)
    dsimp only [e26] at p1 ⊢
    simp (config := { decide := false }) only [_root_.Mi.v0, _root_.Mi.vS, _root_.Mi.rd0f, _root_.Mi.rd0o, _root_.Mi.rdS, _root_.Mi.iteT, _root_.Mi.iteF, bS_ok, bS_er, bS_no, oNo, sSeq_ap, sSet_ap, sOwn_ap, sExp_ap, sRet_ap, sIf_ap, sNil_ap, eBin_ap, eCall_ap, aCons_ap, aNil_ap, eC_ap, tB_ap, isB_ap, tNot_ap, tAnd_ap, tOr_ap, tTru_ap, _root_.Mi.truB, _root_.Mi.truL, _root_.Mi.truT, _root_.Mi.truI, fn_ap, _root_.Mi.env2, oRt, oNx, oEr, sRaise_ap, _root_.Mi.R.ok_bind, _root_.Mi.R.er_bind, _root_.Mi.R.no_bind, _root_.Mi.R.calm_ok, _root_.Mi.R.calm_no, List.set_cons_zero, List.set_cons_succ, List.length_cons, List.length_nil, List.map_cons, List.map_nil, List.replicate_zero, List.replicate_succ, List.cons_append, List.nil_append, Nat.reduceAdd, Nat.reduceSub, Nat.reduceEqDiff, if_true, if_false, Bool.not_true, Bool.not_false, ite_true, ite_false, reduceIte, Nat.zero_add, eBl_ap, len_L, len_T, lt_I, le_I, gt_I, sFor_ap, iD_ap, itemsL, itemsT, itemsDi, sAug_ap, List.getElem?_cons_succ, List.getElem?_cons_zero, eLst_ap, eTup_ap, mkL_ap, mkT_ap, Nat.reduceLeDiff, frzA_ap, frzA, List.length_map, wipe_nil, wipe_cons, eFz_ap, isL_ap, _root_.Mi.w0, _root_.Mi.w1, add_I, sub_I, eqInt, neInt, within_ok, sAsg_ap, gTp_ap, gsCons_ap, gsNil_ap, gNm_ap, Option.bind_some, frz_ap, frzE, eAnd_ap, eOr_ap, isN_none, isN_list, eIf_ap, iR1_ap, itL0, itL1, itL2, itL3, itL4, itL5, itT0, itT1, itT2, itT3, itT4, itT5, eRep_ap, rep2, rep3, rep4, rep5, rep6, xNil_ap, xF_ap, xO_ap, sPar2_ap, eIsi_ap, many_str, never_str, p1, fldS40, ng1, i1, n1]
  have c4 : xAnd (xBin dEq (xCall0 x__law_board 3 (eTup (aCons (eC (.str (Str.ofString "jump"))) (aCons (eVar 13) aNil)))) (eC (.str (Str.ofString "jump")))) (eBin dEq (eMethN m_Board_stand 3 aNil) (eBin dItem' (eFldS 4 0) (eNeg (eC (.int 1))))) (e26 N w (encS s) (bB w ts t us vs) (bS' ts t us vs) B5 B6 B7 B8 B9 B10 B11 B12 (.fz x)) = .ok (.bool true) (e26 N w (encS s) (bB w ts t us vs) (bS' ts t us vs) B5 B6 B7 B8 B9 B10 B11 B12 (.fz x)) := by
    unfold xAnd
    rw [c2]
    show xR (eBin dEq (eMethN m_Board_stand 3 aNil) (eBin dItem' (eFldS 4 0) (eNeg (eC (.int 1)))) _) _ = _
    rw [c3]
    rfl
  unfold b_law_6 sRetX
  rw [c4]
  rfl
end Mi

theorem PySem.Challenge.cw_lastjump_k26_board_holds : PySem.Challenge.rw_lastjump_k26_board.Holds :=
  Mi.law_holds Mi.hm
