import PyProof.Rows.All
import Wide.All
import OpenK.AllK
import Wide.FinOn
import KE.GoesMore
import KE.GoesEnumKw
import HandS.Iter
import HandS.Base
import HandS.Call
import HandS.List
import HandS.Comp
import HandS.Dict
import HandS.Text
import HandS.Exc
import HandS.TryOnly
import HandS.ExcOwn
import HandS.Lambda
import HandS.Walk
import HandS.Words
import HandS.WordsList
import HandS.WordsDict
import HandS.WordsExc
import HandS.Defaults
import HandS.CallSlots
import HandS.Deep
import HandS.Wide
import KE.SortData
import KE.GoesEnum
import HandS.SetFor
import KE.SortKeyHeap
import HandS.SortKw
import KE.KSortKey
import HandS.IsInst
import HandS.Style
import HandS.Replace
import HandS.More
import HandS.HeadWalk
import HandS.Head0
import HandS.Head1
import HandS.Head2
import HandS.HeadHook1
import HandS.HeadHook2
import HandS.HeadHook3
import HandS.HeadHook4
import HandS.TupSets
import HandS.SetBool
import HandS.DictComp
import HandS.FStr
import HandS.NoneIn
import HandS.ExcInit
import HandS.ClsMeth
import HandS.ExcField
import HandS.ExcIs
import HandS.TryMany
import KE.KExcIs
import KE.KCallOwn
import PyProof.Conv_bool
import OpenK.KOps
import HandS.SetKeys
import HandS.Conv
import HandS.TupLen
import HandS.RaiseMore
import PyProof.DictMoreH
import HandS.TupMul
import PyProof.StrOps2
import KE.KRevSl
import PyProof.Rows.StrRev
import PyProof.ListStr
import PySem.Challenge.RW_saidonce_k17_whole_tables_against
set_option Elab.async false
set_option linter.all false
set_option maxRecDepth 100000
set_option maxHeartbeats 0
section
/-! zip(.., strict=True) of two or three things of any kind. -/
namespace Zs
open PySem PySem.Spec PyProof.Rows
abbrev ZipAt (h : Heap) (z TI TO : Addr) (f0 : Value) : Prop := h.get? z = some { cls := .type "zip", dict := none, data := .fields #[f0, .bool false, .bool true, .ref TI, .ref TO], slots := #[] }
section
variable {P : Program} {w : World} {A : Around} {E : Value → Shared → Prop} {s : Shared}
theorem ne_item {it : Addr} {fp : List Addr} {n i : Nat} {Pv : Nat → Value → Prop} {T : Nat → Heap → Prop} {Q : Option Value → Shared → Prop} (D : Draws P w A it fp n Pv T) (hi : i < n) (st : T i s.heap)
    (hQ : ∀ x hp tk, Pv i x → T (i + 1) hp → Heap.SameBut it s.heap hp → Q (some x) { s with heap := hp, toks := tk }) : wpAny (model P w) A (Builtin.SmallTypes.nextOrEnd (.ref it)) Q E s := by
  unfold Builtin.SmallTypes.nextOrEnd
  exact wpAny_bind (wpAny_attempt (D.item i s _ _ hi st fun x hp tk a b c => wpAny_pure (hQ x hp tk a b c)))
theorem ne_end {it : Addr} {fp : List Addr} {n : Nat} {Pv : Nat → Value → Prop} {T : Nat → Heap → Prop} {Q : Option Value → Shared → Prop} (D : Draws P w A it fp n Pv T) (st : T n s.heap)
    (hQ : ∀ hp, Heap.ExtBut it s.heap hp → Q none { s with heap := hp }) : wpAny (model P w) A (Builtin.SmallTypes.nextOrEnd (.ref it)) Q E s := by
  unfold Builtin.SmallTypes.nextOrEnd
  exact wpAny_bind (wpAny_attempt (D.done s _ _ st fun hp e x ⟨o, ho, hc⟩ => wpAny_bind (wpAny_isInstance (T := "StopIteration") (b := true) ⟨o, ho, hc⟩ isSubtype_stop (wpAny_pure (hQ hp x)))))
end
theorem _root_.PySem.Draws.ov {P : Program} {w : World} {A : Around} {it : Addr} {fp : List Addr} {n : Nat} {Pv : Nat → Value → Prop} {T : Nat → Heap → Prop} (D : Draws P w A it fp n Pv T) {i : Nat} {h h' : Heap} {x : Addr} (st : T i h) (hs : Heap.ExtBut x h h') (hx : x ∉ fp) : T i h' :=
  D.frame i h h' st fun b hb o e => hs b o (fun q => hx (q ▸ hb)) e
theorem stop_raise {P : Program} {w : World} {A : Around} {E : Value → Shared → Prop} {s : Shared} {α : Type} {Q : α → Shared → Prop} (hh : A.handled = none)
    (hE : ∀ hp e, (∀ c o, s.heap.get? c = some o → hp.get? c = some o) → (∃ o, hp.get? e = some o ∧ o.cls = .type "StopIteration") → E (.ref e) { s with heap := hp }) : wpAny (model P w) A (Builtin.SmallTypes.stopIteration (α := α)) Q E s := by
  unfold Builtin.SmallTypes.stopIteration
  refine wpAny_bind ?_
  simp only [newExc, newTuple]
  refine wpAny_bind (wpAny_newObj_type ?_ (by size_fits))
  refine wpAny_bind (m := firstArgMember _ _) (wpAny_of_eq (a := Value.none) (by first | rfl | (simp only [firstArgMember]; rfl)) ?_)
  refine wpAny_newObj_type ?_ (by size_fits)
  simp only [raiseNew]
  refine wpAny_bind (wpAny_handled ?_)
  rw [hh]
  refine wpAny_bind (wpAny_pure (wpAny_throw ?_))
  exact hE _ _ (fun c o e => Heap.get?_push_of_some _ (Heap.get?_push_of_some _ e)) ⟨_, Heap.get?_push_size _ rfl, rfl⟩
section
open PySem.Builtin PySem.Builtin.SmallTypes
def tailS (its : List Value) (i : Nat) : Sem Fin := do
  if i > 0 then
    rule "zip.__next__.shorter"; raiseError "ValueError" s!"zip() argument {i + 1} is shorter than {(if i == 1 then "argument 1" else s!"arguments 1-{i}" : String)}"
  for (it, j) in (its.drop 1).zipIdx 1 do
    if (← nextOrEnd it).isSome then
      rule "zip.__next__.longer"; raiseError "ValueError" s!"zip() argument {j + 1} is longer than {(if j == 1 then "argument 1" else s!"arguments 1-{j}" : String)}"
  rule "zip.__next__.all-ended"; stopIteration
end
abbrev Tp2 (h : Heap) (T : Addr) (a1 : Value) (a2 : Value) : Prop := h.get? T = some { cls := .type "tuple", data := .seq #[a1, a2] }
structure Sep2 (z TI TO : Addr) (i1 : Addr) (i2 : Addr) (f1 : List Addr) (f2 : List Addr) : Prop where
  zT : z ≠ TI
  zO : z ≠ TO
  TO_ : TI ≠ TO
  m1 : i1 ∈ f1
  z1 : z ∉ f1
  T1 : TI ∉ f1
  O1 : TO ∉ f1
  s12 : i1 ∉ f2
  m2 : i2 ∈ f2
  z2 : z ∉ f2
  T2 : TI ∉ f2
  O2 : TO ∉ f2
  s21 : i2 ∉ f1
theorem Sep2.zi1 {z TI TO i1 i2 : Addr} {f1 f2 : List Addr} (S : Sep2 z TI TO i1 i2 f1 f2) : z ≠ i1 := fun e => S.z1 (e ▸ S.m1)
theorem Sep2.Oi1 {z TI TO i1 i2 : Addr} {f1 f2 : List Addr} (S : Sep2 z TI TO i1 i2 f1 f2) : TO ≠ i1 := fun e => S.O1 (e ▸ S.m1)
theorem Sep2.Ti1 {z TI TO i1 i2 : Addr} {f1 f2 : List Addr} (S : Sep2 z TI TO i1 i2 f1 f2) : TI ≠ i1 := fun e => S.T1 (e ▸ S.m1)
theorem Sep2.zi2 {z TI TO i1 i2 : Addr} {f1 f2 : List Addr} (S : Sep2 z TI TO i1 i2 f1 f2) : z ≠ i2 := fun e => S.z2 (e ▸ S.m2)
theorem Sep2.Oi2 {z TI TO i1 i2 : Addr} {f1 f2 : List Addr} (S : Sep2 z TI TO i1 i2 f1 f2) : TO ≠ i2 := fun e => S.O2 (e ▸ S.m2)
theorem Sep2.Ti2 {z TI TO i1 i2 : Addr} {f1 f2 : List Addr} (S : Sep2 z TI TO i1 i2 f1 f2) : TI ≠ i2 := fun e => S.T2 (e ▸ S.m2)
section
variable {P : Program} {w : World} {A : Around} {E : Value → Shared → Prop} {s : Shared}
variable {z TI TO i1 i2 : Addr} {f1 f2 : List Addr} {n i : Nat} {P1 : Nat → Value → Prop} {T1 : Nat → Heap → Prop} {P2 : Nat → Value → Prop} {T2 : Nat → Heap → Prop} {a1 a2 : Value}
theorem upTp2 {T : Addr} {x : Value} {k : Nat} {Q : Unit → Shared → Prop} (hT : Tp2 s.heap T a1 a2)
    (h : ∀ hp, hp.get? T = some { cls := .type "tuple", data := .seq ((#[a1, a2] : Array Value).setIfInBounds k x) } → Heap.SameBut T s.heap hp → Q () { s with heap := hp }) :
    wpAny (model P w) A (updateSeq T (·.setIfInBounds k x)) Q E s :=
  wpAny_updateSeq hT rfl (h _ (by rw [Heap.get?_update_self _ hT rfl] <;> simp [Obj.mapSeq]) (Heap.SameBut.update ..))
theorem zs2_item {Q : Value → Shared → Prop} (S : Sep2 z TI TO i1 i2 f1 f2) (D1 : Draws P w A i1 f1 n P1 T1) (D2 : Draws P w A i2 f2 n P2 T2)
    (hz : ZipAt s.heap z TI TO .none) (hI : Tp2 s.heap TI (.ref i1) (.ref i2)) (hO : Tp2 s.heap TO a1 a2) (t1 : T1 i s.heap) (t2 : T2 i s.heap) (hi : i < n)
    (hQ : ∀ x1 x2 hp tk, P1 i x1 → P2 i x2 → ZipAt hp z TI TO (rawInt s.heap.objs.size) → Tp2 hp TI (.ref i1) (.ref i2) → Tp2 hp TO x1 x2 → T1 (i + 1) hp → T2 (i + 1) hp → Tp2 hp s.heap.objs.size x1 x2 → hp.objs.size = s.heap.objs.size + 1 →
      (∀ c o, c ≠ z → c ≠ TO → c ≠ i1 → c ≠ i2 → s.heap.get? c = some o → hp.get? c = some o) → Q (.ref s.heap.objs.size) { s with heap := hp, toks := tk }) :
    wpAny (model P w) A (Builtin.«zip.__next__» ⟨[.ref z], []⟩) (fun fin s1 => ∃ v, fin = .done (.ret v) ∧ Q v s1) E s := by
  obtain ⟨h0, gn, dr, k0, os⟩ := s
  show wpAny _ _ (field (.ref z) 2 >>= _) _ _ _
  refine wpAny_bind (wpAny_field hz rfl (x := .bool true) rfl ?_)
  show wpAny _ _ (field (.ref z) 3 >>= _) _ _ _
  refine wpAny_bind (wpAny_field hz rfl (x := .ref TI) rfl ?_)
  refine wpAny_bind (wpAny_seqItems hI rfl ?_)
  show wpAny _ _ (Builtin.SmallTypes.ownedTupleIsFree (.ref z) >>= _) _ _ _
  refine wpAny_bind ?_
  unfold Builtin.SmallTypes.ownedTupleIsFree
  refine wpAny_bind (wpAny_field hz rfl (x := .none) rfl (wpAny_pure ?_))
  simp only [if_true]
  refine wpAny_bind (wpAny_rule ?_)
  refine wpAny_bind (wpAny_field hz rfl (x := .ref TO) rfl ?_)
  refine wpAny_bind (wpAny_setField_rec hz (by simp) fun e0 y0 b0 => ?_)
  replace y0 : ZipAt e0 z TI TO .ellipsis := y0
  replace b0 : Heap.SameBut z h0 e0 := b0
  refine wpAny_bind ?_
  simp only [List.zipIdx_cons, List.zipIdx_nil, List.forIn_cons, List.forIn_nil]
  refine wpAny_bind (wpAny_bind (wpAny_onRaise ?_))
  show wpAny _ _ (Builtin.SmallTypes.nextOrEnd (.ref i1)) _ _ ⟨e0, gn, dr, k0, os⟩
  refine ne_item D1 hi (D1.over t1 b0 S.z1) fun x1 d1 k1 px1 sx1 c1 => ?_
  replace c1 : Heap.SameBut i1 e0 d1 := c1
  have o1 : Tp2 d1 TO a1 a2 := c1.extBut _ _ S.Oi1 (b0.extBut _ _ S.zO.symm hO)
  refine wpAny_bind (wpAny_seqItems (s := ⟨d1, gn, dr, k1, os⟩) o1 rfl ?_)
  refine wpAny_bind (upTp2 (s := ⟨d1, gn, dr, k1, os⟩) o1 fun e1 y1 b1 => ?_)
  replace y1 : Tp2 e1 TO x1 a2 := y1
  replace b1 : Heap.SameBut TO d1 e1 := b1
  refine wpAny_bind (wpAny_letGo (wpAny_pure ?_))
  refine wpAny_bind (wpAny_bind (wpAny_onRaise ?_))
  show wpAny _ _ (Builtin.SmallTypes.nextOrEnd (.ref i2)) _ _ ⟨e1, gn, dr, k1, os⟩
  refine ne_item D2 hi (D2.over (D2.over (D2.over t2 b0 S.z2) c1 S.s12) b1 S.O2) fun x2 d2 k2 px2 sx2 c2 => ?_
  replace c2 : Heap.SameBut i2 e1 d2 := c2
  have o2 : Tp2 d2 TO x1 a2 := c2.extBut _ _ S.Oi2 y1
  refine wpAny_bind (wpAny_seqItems (s := ⟨d2, gn, dr, k2, os⟩) o2 rfl ?_)
  refine wpAny_bind (upTp2 (s := ⟨d2, gn, dr, k2, os⟩) o2 fun e2 y2 b2 => ?_)
  replace y2 : Tp2 e2 TO x1 x2 := y2
  replace b2 : Heap.SameBut TO d2 e2 := b2
  refine wpAny_bind (wpAny_letGo (wpAny_pure (wpAny_pure ?_)))
  refine wpAny_bind (wpAny_seqItems (s := ⟨e2, gn, dr, k2, os⟩) y2 rfl ?_)
  refine wpAny_bind (wpAny_newTuple ?_)
  have sz : e2.objs.size = h0.objs.size := by rw [b2.1, c2.1, b1.1, c1.1, b0.1]
  have az : ZipAt e2 z TI TO .ellipsis := (b2.extBut _ _ S.zO (c2.extBut _ _ S.zi2 (b1.extBut _ _ S.zO (c1.extBut _ _ S.zi1 y0))))
  have ai : Tp2 e2 TI (.ref i1) (.ref i2) := (b2.extBut _ _ S.TO_ (c2.extBut _ _ S.Ti2 (b1.extBut _ _ S.TO_ (c1.extBut _ _ S.Ti1 (b0.extBut _ _ S.zT.symm hI)))))
  have old : ∀ c o, c ≠ z → c ≠ TO → c ≠ i1 → c ≠ i2 → h0.get? c = some o → e2.get? c = some o := fun c o nz nTO ni1 ni2 q => (b2.extBut _ _ nTO (c2.extBut _ _ ni2 (b1.extBut _ _ nTO (c1.extBut _ _ ni1 (b0.extBut _ _ nz q)))))
  have zl : z < e2.objs.size := Heap.lt_size az
  show wpAny _ _ (Builtin.SmallTypes.ownedTupleHandOut (.ref z) (.ref e2.objs.size) >>= _) _ _ ⟨e2.push { cls := .type "tuple", data := .seq #[x1, x2] }, gn, dr, k2, os⟩
  refine wpAny_bind ?_
  unfold Builtin.SmallTypes.ownedTupleHandOut
  have u0 : ZipAt (e2.push { cls := .type "tuple", data := .seq #[x1, x2] }) z TI TO .ellipsis := Heap.get?_push_of_some _ az
  refine wpAny_bind (wpAny_setField_rec u0 (by simp) fun u1 v1 w1 => ?_)
  replace v1 : ZipAt u1 z TI TO (rawInt e2.objs.size) := v1
  refine wpAny_setField_rec v1 (by simp) fun u2 v2 w2 => ?_
  replace v2 : ZipAt u2 z TI TO (rawInt e2.objs.size) := v2
  replace w1 : Heap.SameBut z (e2.push { cls := .type "tuple", data := .seq #[x1, x2] }) u1 := w1
  replace w2 : Heap.SameBut z u1 u2 := w2
  have upw : ∀ c o, c ≠ z → e2.get? c = some o → u2.get? c = some o := fun c o nz q => w2.extBut _ _ nz (w1.extBut _ _ nz (Heap.get?_push_of_some _ q))
  have nt : Tp2 u2 e2.objs.size x1 x2 := w2.extBut _ _ (Nat.ne_of_gt zl) (w1.extBut _ _ (Nat.ne_of_gt zl) (Heap.get?_push_size _ rfl))
  have s8 : u2.objs.size = e2.objs.size + 1 := by rw [w2.1, w1.1, Heap.size_push]
  rw [sz] at v2 nt s8
  refine wpAny_pure ⟨_, rfl, ?_⟩
  show Q (.ref e2.objs.size) ⟨u2, gn, dr, k2, os⟩
  rw [sz]
  exact hQ x1 x2 u2 k2 px1 px2 v2 (upw _ _ S.zT.symm ai) (upw _ _ S.zO.symm y2) (D1.frame _ _ _ (D1.over (D1.over (D1.over sx1 b1 S.O1) c2 S.s21) b2 S.O1) fun b hb o e => upw b o (fun q => S.z1 (q ▸ hb)) e) (D2.frame _ _ _ (D2.over sx2 b2 S.O2) fun b hb o e => upw b o (fun q => S.z2 (q ▸ hb)) e) nt s8 fun c o nz nTO ni1 ni2 q => upw c o nz (old c o nz nTO ni1 ni2 q)
theorem zs2_end {Q : Fin → Shared → Prop} (S : Sep2 z TI TO i1 i2 f1 f2) (D1 : Draws P w A i1 f1 n P1 T1) (D2 : Draws P w A i2 f2 n P2 T2) (hh : A.handled = none)
    (hz : ZipAt s.heap z TI TO .none) (hI : Tp2 s.heap TI (.ref i1) (.ref i2)) (hO : Tp2 s.heap TO a1 a2) (t1 : T1 i s.heap) (t2 : T2 i s.heap) (hi : i = n)
    (hE : ∀ hp tk e, (∀ c o, c ≠ z → c ≠ TO → c ≠ i1 → c ≠ i2 → s.heap.get? c = some o → hp.get? c = some o) → (∃ o, hp.get? e = some o ∧ o.cls = .type "StopIteration") → E (.ref e) { s with heap := hp, toks := tk }) :
    wpAny (model P w) A (Builtin.«zip.__next__» ⟨[.ref z], []⟩) Q E s := by
  subst hi
  obtain ⟨h0, gn, dr, k0, os⟩ := s
  show wpAny _ _ (field (.ref z) 2 >>= _) _ _ _
  refine wpAny_bind (wpAny_field hz rfl (x := .bool true) rfl ?_)
  show wpAny _ _ (field (.ref z) 3 >>= _) _ _ _
  refine wpAny_bind (wpAny_field hz rfl (x := .ref TI) rfl ?_)
  refine wpAny_bind (wpAny_seqItems hI rfl ?_)
  show wpAny _ _ (Builtin.SmallTypes.ownedTupleIsFree (.ref z) >>= _) _ _ _
  refine wpAny_bind ?_
  unfold Builtin.SmallTypes.ownedTupleIsFree
  refine wpAny_bind (wpAny_field hz rfl (x := .none) rfl (wpAny_pure ?_))
  simp only [if_true]
  refine wpAny_bind (wpAny_rule ?_)
  refine wpAny_bind (wpAny_field hz rfl (x := .ref TO) rfl ?_)
  refine wpAny_bind (wpAny_setField_rec hz (by simp) fun e0 y0 b0 => ?_)
  replace y0 : ZipAt e0 z TI TO .ellipsis := y0
  replace b0 : Heap.SameBut z h0 e0 := b0
  refine wpAny_bind ?_
  simp only [List.zipIdx_cons, List.zipIdx_nil, List.forIn_cons, List.forIn_nil]
  refine wpAny_bind (wpAny_bind (wpAny_onRaise ?_))
  show wpAny _ _ (Builtin.SmallTypes.nextOrEnd (.ref i1)) _ _ ⟨e0, gn, dr, k0, os⟩
  refine ne_end D1 (D1.over t1 b0 S.z1) fun d1 c1 => ?_
  replace c1 : Heap.ExtBut i1 e0 d1 := c1
  have z1 : ZipAt d1 z TI TO .ellipsis := c1 _ _ S.zi1 y0
  refine wpAny_bind (wpAny_setField_rec (s := ⟨d1, gn, dr, k0, os⟩) z1 (by simp) fun e1 y1 b1 => ?_)
  replace b1 : Heap.SameBut z d1 e1 := b1
  refine wpAny_bind ?_
  show wpAny _ _ (tailS [Value.ref i1, Value.ref i2] 0) _ _ _
  unfold tailS
  refine wpAny_bind ?_
  simp only [List.drop_succ_cons, List.drop_zero, List.zipIdx_cons, List.zipIdx_nil, List.forIn_cons, List.forIn_nil]
  refine wpAny_bind (wpAny_bind ?_)
  refine ne_end (s := ⟨e1, gn, dr, k0, os⟩) D2 (D2.ov (D2.ov (D2.over t2 b0 S.z2) c1 S.s12) b1.extBut S.z2) fun d2 c2 => ?_
  replace c2 : Heap.ExtBut i2 e1 d2 := c2
  refine wpAny_pure ?_
  refine wpAny_pure ?_
  refine wpAny_bind (wpAny_rule ?_)
  refine stop_raise (s := ⟨d2, gn, dr, k0, os⟩) hh fun hp e kp he => ?_
  exact hE hp k0 e (fun c o nz nTO ni1 ni2 q => kp c o (c2 _ _ ni2 (b1.extBut _ _ nz (c1 _ _ ni1 (b0.extBut _ _ nz q))))) he
end
structure Sep3 (z TI TO : Addr) (i1 : Addr) (i2 : Addr) (i3 : Addr) (f1 : List Addr) (f2 : List Addr) (f3 : List Addr) : Prop where
  zT : z ≠ TI
  zO : z ≠ TO
  TO_ : TI ≠ TO
  m1 : i1 ∈ f1
  z1 : z ∉ f1
  T1 : TI ∉ f1
  O1 : TO ∉ f1
  s12 : i1 ∉ f2
  s13 : i1 ∉ f3
  m2 : i2 ∈ f2
  z2 : z ∉ f2
  T2 : TI ∉ f2
  O2 : TO ∉ f2
  s21 : i2 ∉ f1
  s23 : i2 ∉ f3
  m3 : i3 ∈ f3
  z3 : z ∉ f3
  T3 : TI ∉ f3
  O3 : TO ∉ f3
  s31 : i3 ∉ f1
  s32 : i3 ∉ f2
theorem Sep3.zi1 {z TI TO i1 i2 i3 : Addr} {f1 f2 f3 : List Addr} (S : Sep3 z TI TO i1 i2 i3 f1 f2 f3) : z ≠ i1 := fun e => S.z1 (e ▸ S.m1)
theorem Sep3.Oi1 {z TI TO i1 i2 i3 : Addr} {f1 f2 f3 : List Addr} (S : Sep3 z TI TO i1 i2 i3 f1 f2 f3) : TO ≠ i1 := fun e => S.O1 (e ▸ S.m1)
theorem Sep3.Ti1 {z TI TO i1 i2 i3 : Addr} {f1 f2 f3 : List Addr} (S : Sep3 z TI TO i1 i2 i3 f1 f2 f3) : TI ≠ i1 := fun e => S.T1 (e ▸ S.m1)
theorem Sep3.zi2 {z TI TO i1 i2 i3 : Addr} {f1 f2 f3 : List Addr} (S : Sep3 z TI TO i1 i2 i3 f1 f2 f3) : z ≠ i2 := fun e => S.z2 (e ▸ S.m2)
theorem Sep3.Oi2 {z TI TO i1 i2 i3 : Addr} {f1 f2 f3 : List Addr} (S : Sep3 z TI TO i1 i2 i3 f1 f2 f3) : TO ≠ i2 := fun e => S.O2 (e ▸ S.m2)
theorem Sep3.Ti2 {z TI TO i1 i2 i3 : Addr} {f1 f2 f3 : List Addr} (S : Sep3 z TI TO i1 i2 i3 f1 f2 f3) : TI ≠ i2 := fun e => S.T2 (e ▸ S.m2)
end Zs
end
section
/-! The data layer: trees for values, and what a reading has to do with them. -/
namespace Dn
open PySem L2
/-! ### data -/
inductive Dt where
  | non
  | bl (b : Bool)
  | int (i : Int)
  | str (x : Str)
  | tup (xs : List Dt)
  | lst (xs : List Dt)
  | dic (kvs : List (Key × Dt))
  | dicT (kvs : List (List Key × Dt))
  | obj (c : Str) (fs : List (Str × Dt))
  | exn (c : Str) (fs : List (Str × Dt))
  | wd
  | scr (ns : List Int)
  | emp
  | dicF (kvs : List (Key × Dt))
/-- the draws' state -/
structure Ds where
  ns : List Int
  pl : Int
  rem : Int
  seed : Int
inductive Out (α : Type) where
  | ok (a : α) (w : Ds)
  | exc (c : Str) (fs : List (Str × Dt)) (w : Ds)
  | bad
def Out.bind {α β : Type} (o : Out α) (f : α → Ds → Out β) : Out β := match o with
  | .ok a w => f a w
  | .exc c fs w => .exc c fs w
  | .bad => .bad
/-- what all of a law's run shares, and where a def's run began -/
structure Kp where
  K : PySem.W.Frag
  cls : Str → Option Addr
  pd : Option Addr
  sq : Addr
  ns : List Int
  tb : List (Addr × Str)
  xa : Option (Addr × Addr × Addr)
  sf : Option Addr := none
/-- what may be written although nobody owns it: the draws' list, the tables of code objects -/
def Kp.mu (k : Kp) (b : Addr) : Prop := k.pd = some b ∨ ∃ q, (b, q) ∈ k.tb
structure Ct where
  k : Kp
  H0 : Hp
  D0 : Hp
abbrev Sub (A B : Hp) : Prop := ∀ a o, A a = some o → B a = some o
theorem Sub.refl (A : Hp) : Sub A A := fun _ _ h => h
theorem Sub.trans {A B C : Hp} (h : Sub A B) (g : Sub B C) : Sub A C := fun a o e => g a o (h a o e)
mutual
inductive Rp (k : Kp) (D : Hp) : V → Dt → Prop
  | non : Rp k D .non .non
  | bl (b : Bool) : Rp k D (.bl b) (.bl b)
  | int (i : Int) : Rp k D (.int i) (.int i)
  | str (x : Str) : Rp k D (.str x) (.str x)
  | tup {a : Addr} {vs : List V} {ds : List Dt} : D a = some (.tup vs) → RpL k D vs ds → Rp k D (.ref a) (.tup ds)
  | lst {a : Addr} {vs : List V} {ds : List Dt} : D a = some (.lst vs) → RpL k D vs ds → Rp k D (.ref a) (.lst ds)
  | dic {a : Addr} {ks : List (Key × V)} {kvs : List (Key × Dt)} : D a = some (.dK ks) → ks.map (·.1) = kvs.map (·.1) → RpL k D (ks.map (·.2)) (kvs.map (·.2)) → Rp k D (.ref a) (.dic kvs)
  | dicT {a : Addr} {ks : List (List Key × V)} {kvs : List (List Key × Dt)} : D a = some (.dT ks) → ks.map (·.1) = kvs.map (·.1) → RpL k D (ks.map (·.2)) (kvs.map (·.2)) → Rp k D (.ref a) (.dicT kvs)
  | obj {a C dx : Addr} {vs : List (Str × V)} {c : Str} {fs : List (Str × Dt)} : D a = some (.ins C dx vs) → D dx = some (.own a) → k.cls c = some C → vs.map (·.1) = fs.map (·.1) →
      RpL k D (vs.map (·.2)) (fs.map (·.2)) → Rp k D (.ref a) (.obj c fs)
  | exn {a C dx : Addr} {vs : List (Str × V)} {c : Str} {fs : List (Str × Dt)} : k.xa = some (a, C, dx) → k.cls c = some C → D dx = some (.xd vs) → vs.map (·.1) = fs.map (·.1) →
      RpL k D (vs.map (·.2)) (fs.map (·.2)) → Rp k D (.ref a) (.exn c fs)
  | wd {a : Addr} : k.pd = some a → Rp k D (.ref a) .wd
  | scr {a : Addr} {ns : List Int} : SqL k.K D a (ns.map V.int) → Rp k D (.ref a) (.scr ns)
  | emp {a : Addr} : SqT k.K (fun _ => none) a [] → Rp k D (.ref a) .emp
  | dicF {a : Addr} {o : Obj} {ks : List (Key × V)} {kvs : List (Key × Dt)} : D a = some (.frz o (.dK ks)) → ks.map (·.1) = kvs.map (·.1) → RpL k D (ks.map (·.2)) (kvs.map (·.2)) → Rp k D (.ref a) (.dicF kvs)
inductive RpL (k : Kp) (D : Hp) : List V → List Dt → Prop
  | nil : RpL k D [] []
  | cons {v : V} {vs : List V} {d : Dt} {ds : List Dt} : Rp k D v d → RpL k D vs ds → RpL k D (v :: vs) (d :: ds)
end
theorem sqL_sub {K : PySem.W.Frag} {D D' : Hp} {a : Addr} {xs : List V} (s : Sub D D') (h : SqL K D a xs) : SqL K D' a xs := by
  rcases h with (h | ⟨o, h⟩) | h
  · exact .inl (.inl (s _ _ h))
  · exact .inl (.inr ⟨o, s _ _ h⟩)
  · exact .inr h
theorem sqT_sub {K : PySem.W.Frag} {D D' : Hp} {a : Addr} {xs : List V} (s : Sub D D') (h : SqT K D a xs) : SqT K D' a xs := by
  rcases h with (h | ⟨o, h⟩) | h
  · exact .inl (.inl (s _ _ h))
  · exact .inl (.inr ⟨o, s _ _ h⟩)
  · exact .inr h
theorem tupS {K : PySem.W.Frag} {D D' : Hp} {a : Addr} {xs : List V} (s : Sub D D') (h : D a = some (.tup xs)) : SqT K D' a xs := SqT.of (s _ _ h)
section
variable {k : Kp} {D D' : Hp}
mutual
theorem Rp.mono (s : Sub D D') : ∀ {v : V} {d : Dt}, Rp k D v d → Rp k D' v d
  | _, _, .non => .non
  | _, _, .bl b => .bl b
  | _, _, .int i => .int i
  | _, _, .str x => .str x
  | _, _, .tup h r => .tup (s _ _ h) (RpL.mono s r)
  | _, _, .lst h r => .lst (s _ _ h) (RpL.mono s r)
  | _, _, .dic h e r => .dic (s _ _ h) e (RpL.mono s r)
  | _, _, .dicT h e r => .dicT (s _ _ h) e (RpL.mono s r)
  | _, _, .dicF h e r => .dicF (s _ _ h) e (RpL.mono s r)
  | _, _, .obj h o c e r => .obj (s _ _ h) (s _ _ o) c e (RpL.mono s r)
  | _, _, .exn h c o e r => .exn h c (s _ _ o) e (RpL.mono s r)
  | _, _, .wd e => .wd e
  | _, _, .scr h => .scr (sqL_sub s h)
  | _, _, .emp h => .emp h
theorem RpL.mono (s : Sub D D') : ∀ {vs : List V} {ds : List Dt}, RpL k D vs ds → RpL k D' vs ds
  | _, _, .nil => .nil
  | _, _, .cons h r => .cons (Rp.mono s h) (RpL.mono s r)
end
theorem RpL.length : ∀ {vs : List V} {ds : List Dt}, RpL k D vs ds → vs.length = ds.length
  | _, _, .nil => rfl
  | _, _, .cons _ r => congrArg (· + 1) r.length
theorem RpL.append : ∀ {vs us : List V} {ds es : List Dt}, RpL k D vs ds → RpL k D us es → RpL k D (vs ++ us) (ds ++ es)
  | _, _, _, _, .nil, h => h
  | _, _, _, _, .cons h r, h' => .cons h (r.append h')
theorem RpL.get : ∀ {vs : List V} {ds : List Dt} {i : Nat} {v : V}, RpL k D vs ds → vs[i]? = some v → ∃ d, ds[i]? = some d ∧ Rp k D v d
  | _, _, i, _, .nil, h => by simp at h
  | _, _, 0, _, .cons h _, e => by
    simp at e
    exact ⟨_, rfl, e ▸ h⟩
  | _, _, i + 1, _, .cons _ r, e => by
    simp at e
    obtain ⟨d, h1, h2⟩ := r.get e
    exact ⟨d, by simpa using h1, h2⟩
theorem RpL.get' : ∀ {vs : List V} {ds : List Dt} {i : Nat} {d : Dt}, RpL k D vs ds → ds[i]? = some d → ∃ v, vs[i]? = some v ∧ Rp k D v d
  | _, _, i, _, .nil, h => by simp at h
  | _, _, 0, _, .cons h _, e => by
    simp at e
    exact ⟨_, rfl, e ▸ h⟩
  | _, _, i + 1, _, .cons _ r, e => by
    simp at e
    obtain ⟨d, h1, h2⟩ := r.get' e
    exact ⟨d, by simpa using h1, h2⟩
theorem RpL.take : ∀ {vs : List V} {ds : List Dt} (n : Nat), RpL k D vs ds → RpL k D (vs.take n) (ds.take n)
  | _, _, 0, _ => .nil
  | _, _, _ + 1, .nil => .nil
  | _, _, n + 1, .cons h r => .cons h (r.take n)
theorem RpL.drop : ∀ {vs : List V} {ds : List Dt} (n : Nat), RpL k D vs ds → RpL k D (vs.drop n) (ds.drop n)
  | _, _, 0, h => h
  | _, _, _ + 1, .nil => .nil
  | _, _, n + 1, .cons _ r => r.drop n
theorem RpL.set {v : V} {d : Dt} (h : Rp k D v d) : ∀ {vs : List V} {ds : List Dt} (i : Nat), RpL k D vs ds → RpL k D (vs.set i v) (ds.set i d)
  | _, _, _, .nil => .nil
  | _, _, 0, .cons _ r => .cons h r
  | _, _, i + 1, .cons q r => .cons q (RpL.set h i r)
end
/-! ### what a def owns: objects that nothing else knows -/
/-- what a field of an owned instance holds: data, or a list of its own -/
inductive Fv where
  | d (x : Dt)
  | l (ds : List Dt)
def Fv.dt : Fv → Dt
  | .d x => x
  | .l ds => .lst ds
def FldsOk (k : Kp) (D H : Hp) : List (Str × V) → List (Str × Fv) → List Addr → Prop
  | [], [], fp => fp = []
  | (n, v) :: vs, (m, .d x) :: fs, fp => n = m ∧ Rp k D v x ∧ FldsOk k D H vs fs fp
  | (n, v) :: vs, (m, .l ds) :: fs, fp => n = m ∧ ∃ q r us, fp = q :: r ∧ v = .ref q ∧ H q = some (.lst us) ∧ RpL k D us ds ∧ FldsOk k D H vs fs r
  | _, _, _ => False
theorem FldsOk.mono {k : Kp} {D D' H H' : Hp} (s : Sub D D') : ∀ {vs : List (Str × V)} {fs : List (Str × Fv)} {fp : List Addr}, FldsOk k D H vs fs fp → (∀ q ∈ fp, ∀ u, H q = some u → H' q = some u) → FldsOk k D' H' vs fs fp
  | [], [], _, h, _ => h
  | (n, v) :: vs, (m, .d x) :: fs, fp, ⟨e, r, t⟩, k => ⟨e, r.mono s, FldsOk.mono s t k⟩
  | (n, v) :: vs, (m, .l ds) :: fs, fp, ⟨e, q, r, us, e1, e2, h, rr, t⟩, k => ⟨e, q, r, us, e1, e2, k q (by rw [e1]; simp) _ h, rr.mono s, FldsOk.mono s t fun z hz => k z (by rw [e1]; exact List.mem_cons_of_mem _ hz)⟩
  | [], (_, .d _) :: _, _, h, _ => h.elim
  | [], (_, .l _) :: _, _, h, _ => h.elim
  | _ :: _, [], _, h, _ => h.elim
theorem FldsOk.there {k : Kp} {D H : Hp} : ∀ {vs : List (Str × V)} {fs : List (Str × Fv)} {fp : List Addr}, FldsOk k D H vs fs fp → ∀ q ∈ fp, ∃ us, H q = some (.lst us)
  | [], [], _, h, q, hq => by rw [show _ = [] from h] at hq; cases hq
  | (n, v) :: vs, (m, .d x) :: fs, fp, ⟨e, r, t⟩, q, hq => t.there q hq
  | (n, v) :: vs, (m, .l ds) :: fs, fp, ⟨e, z, r, us, e1, e2, h, rr, t⟩, q, hq => by
    rw [e1] at hq
    rcases List.mem_cons.mp hq with y | y
    · exact ⟨us, y ▸ h⟩
    · exact t.there q y
  | [], (_, .d _) :: _, _, h, _, _ => h.elim
  | [], (_, .l _) :: _, _, h, _, _ => h.elim
  | _ :: _, [], _, h, _, _ => h.elim
/-- all of it as data -/
theorem FldsOk.rpl {k : Kp} {D H : Hp} : ∀ {vs : List (Str × V)} {fs : List (Str × Fv)} {fp : List Addr}, FldsOk k D H vs fs fp → (∀ q ∈ fp, ∀ u, H q = some u → D q = some u) →
    vs.map (·.1) = (fs.map fun x => (x.1, x.2.dt)).map (·.1) ∧ RpL k D (vs.map (·.2)) ((fs.map fun x => (x.1, x.2.dt)).map (·.2))
  | [], [], _, _, _ => ⟨rfl, .nil⟩
  | (n, v) :: vs, (m, .d x) :: fs, fp, ⟨e, r, t⟩, k => let ⟨h1, h2⟩ := t.rpl k; ⟨by subst e; simpa using h1, .cons r h2⟩
  | (n, v) :: vs, (m, .l ds) :: fs, fp, ⟨e, z, r, us, e1, e2, h, rr, t⟩, k => let ⟨h1, h2⟩ := t.rpl fun q hq => k q (by rw [e1]; exact List.mem_cons_of_mem _ hq)
    ⟨by subst e; simpa using h1, by subst e2; exact .cons (.lst (k z (by rw [e1]; simp) _ h) rr) h2⟩
  | [], (_, .d _) :: _, _, h, _ => h.elim
  | [], (_, .l _) :: _, _, h, _ => h.elim
  | _ :: _, [], _, h, _ => h.elim
/-- an own instance, its fields as told -/
def InsAt (k : Kp) (D H : Hp) (p : Addr) (c : Str) (fs : List (Str × Fv)) (fp : List Addr) : Prop := ∃ Ca dx vs r, fp = p :: dx :: r ∧ H p = some (.ins Ca dx vs) ∧ H dx = some (.own p) ∧ k.cls c = some Ca ∧ FldsOk k D H vs fs r
theorem InsAt.mono {k : Kp} {D D' H H' : Hp} {p : Addr} {c : Str} {fs : List (Str × Fv)} {fp : List Addr} (h : InsAt k D H p c fs fp) (s : Sub D D') (kk : ∀ q ∈ fp, ∀ u, H q = some u → H' q = some u) : InsAt k D' H' p c fs fp := by
  obtain ⟨Ca, dx, vs, r, e, h1, h2, h3, t⟩ := h
  exact ⟨Ca, dx, vs, r, e, kk p (by rw [e]; simp) _ h1, kk dx (by rw [e]; simp) _ h2, h3, t.mono s fun q hq => kk q (by rw [e]; simp [hq])⟩
theorem InsAt.there {k : Kp} {D H : Hp} {p : Addr} {c : Str} {fs : List (Str × Fv)} {fp : List Addr} (h : InsAt k D H p c fs fp) : ∀ q ∈ fp, ∃ u, H q = some u ∧ ((∃ C dx vs, u = .ins C dx vs) ∨ (∃ o, u = .own o) ∨ ∃ us, u = .lst us) := by
  obtain ⟨Ca, dx, vs, r, e, h1, h2, h3, t⟩ := h
  intro q hq
  rw [e] at hq
  rcases List.mem_cons.mp hq with z | hq
  · exact ⟨_, z ▸ h1, .inl ⟨_, _, _, rfl⟩⟩
  · rcases List.mem_cons.mp hq with z | hq
    · exact ⟨_, z ▸ h2, .inr (.inl ⟨_, rfl⟩)⟩
    · obtain ⟨us, h⟩ := t.there q hq
      exact ⟨_, h, .inr (.inr ⟨_, rfl⟩)⟩
theorem InsAt.rp {k : Kp} {D H : Hp} {p : Addr} {c : Str} {fs : List (Str × Fv)} {fp : List Addr} (h : InsAt k D H p c fs fp) (kk : ∀ q ∈ fp, ∀ u, H q = some u → D q = some u) : Rp k D (.ref p) (.obj c (fs.map fun x => (x.1, x.2.dt))) := by
  obtain ⟨Ca, dx, vs, r, e, h1, h2, h3, t⟩ := h
  obtain ⟨t1, t2⟩ := t.rpl fun q hq => kk q (by rw [e]; simp [hq])
  exact .obj (kk p (by rw [e]; simp) _ h1) (kk dx (by rw [e]; simp) _ h2) h3 t1 t2
inductive Ow where
  | lst (ds : List Dt)
  | dK (kvs : List (Key × Dt))
  | dT (kvs : List (List Key × Dt))
  | ins (c : Str) (fs : List (Str × Fv))
  | slf (c : Str) (fs : List (Str × Fv))
  | ll (dss : List (List Dt))
  | dL (kvs : List (List Key × List Dt))
/-- owned lists at these places -/
def Kids (k : Kp) (D H : Hp) : List Addr → List (List Dt) → Prop
  | [], [] => True
  | p :: ps, ds :: dss => (∃ vs, H p = some (.lst vs) ∧ RpL k D vs ds) ∧ Kids k D H ps dss
  | _, _ => False
theorem Kids.mono {k : Kp} {D D' H H' : Hp} (s : Sub D D') : ∀ {ps : List Addr} {dss : List (List Dt)}, Kids k D H ps dss → (∀ q ∈ ps, ∀ u, H q = some u → H' q = some u) → Kids k D' H' ps dss
  | [], [], h, _ => h
  | p :: ps, ds :: dss, ⟨⟨vs, h, r⟩, t⟩, k => ⟨⟨vs, k p List.mem_cons_self _ h, r.mono s⟩, Kids.mono s t fun q hq => k q (List.mem_cons_of_mem _ hq)⟩
  | [], _ :: _, h, _ => h.elim
  | _ :: _, [], h, _ => h.elim
theorem Kids.there {k : Kp} {D H : Hp} : ∀ {ps : List Addr} {dss : List (List Dt)}, Kids k D H ps dss → ∀ q ∈ ps, ∃ vs, H q = some (.lst vs)
  | [], [], _, q, hq => nomatch hq
  | p :: ps, ds :: dss, ⟨⟨vs, h, r⟩, t⟩, q, hq => (List.mem_cons.mp hq).elim (fun e => ⟨vs, e ▸ h⟩) fun z => t.there q z
  | [], _ :: _, h, _, _ => h.elim
  | _ :: _, [], h, _, _ => h.elim
theorem Kids.length {k : Kp} {D H : Hp} : ∀ {ps : List Addr} {dss : List (List Dt)}, Kids k D H ps dss → ps.length = dss.length
  | [], [], _ => rfl
  | p :: ps, ds :: dss, ⟨_, t⟩ => congrArg (· + 1) t.length
  | [], _ :: _, h => h.elim
  | _ :: _, [], h => h.elim
theorem Kids.rpl {k : Kp} {D H : Hp} : ∀ {ps : List Addr} {dss : List (List Dt)}, Kids k D H ps dss → (∀ q ∈ ps, ∀ u, H q = some u → D q = some u) → RpL k D (ps.map V.ref) (dss.map Dt.lst)
  | [], [], _, _ => .nil
  | p :: ps, ds :: dss, ⟨⟨vs, h, r⟩, t⟩, k => .cons (.lst (k p List.mem_cons_self _ h) r) (t.rpl fun q hq => k q (List.mem_cons_of_mem _ hq))
  | [], _ :: _, h, _ => h.elim
  | _ :: _, [], h, _ => h.elim
def OwnAt (C : Ct) (D H : Hp) (p : Addr) : Ow → List Addr → Prop
  | .lst ds, fp => fp = [p] ∧ ∃ vs, H p = some (.lst vs) ∧ RpL C.k D vs ds
  | .dK kvs, fp => fp = [p] ∧ ∃ ks, H p = some (.dK ks) ∧ ks.map (·.1) = kvs.map (·.1) ∧ RpL C.k D (ks.map (·.2)) (kvs.map (·.2))
  | .dT kvs, fp => fp = [p] ∧ ∃ ks, H p = some (.dT ks) ∧ ks.map (·.1) = kvs.map (·.1) ∧ RpL C.k D (ks.map (·.2)) (kvs.map (·.2))
  | .ins c fs, fp => InsAt C.k D H p c fs fp
  | .slf c fs, fp => C.k.sf = some p ∧ InsAt C.k D H p c fs fp
  | .ll dss, fp => ∃ ps, fp = p :: ps ∧ H p = some (.lst (ps.map V.ref)) ∧ Kids C.k D H ps dss
  | .dL kvs, fp => ∃ (ps : List Addr) (ks : List (List Key × V)), fp = p :: ps ∧ H p = some (.dT ks) ∧ ks.map (·.1) = kvs.map (·.1) ∧ ks.map (·.2) = ps.map V.ref ∧ Kids C.k D H ps (kvs.map (·.2))
theorem OwnAt.mono {C : Ct} {D D' H H' : Hp} {p : Addr} : ∀ {o : Ow} {fp : List Addr}, OwnAt C D H p o fp → Sub D D' → (∀ q ∈ fp, ∀ u, H q = some u → H' q = some u) → OwnAt C D' H' p o fp
  | .lst ds, fp, ⟨e, vs, h, r⟩, s, k => ⟨e, vs, k p (by rw [e]; simp) _ h, r.mono s⟩
  | .dK ds, fp, ⟨e, vs, h, q, r⟩, s, k => ⟨e, vs, k p (by rw [e]; simp) _ h, q, r.mono s⟩
  | .dT ds, fp, ⟨e, vs, h, q, r⟩, s, k => ⟨e, vs, k p (by rw [e]; simp) _ h, q, r.mono s⟩
  | .ins c fs, fp, h, s, k => InsAt.mono h s k
  | .slf c fs, fp, ⟨z, h⟩, s, k => ⟨z, h.mono s k⟩
  | .ll dss, fp, ⟨ps, e, h, t⟩, s, k => ⟨ps, e, k p (by rw [e]; simp) _ h, t.mono s fun q hq => k q (by rw [e]; exact List.mem_cons_of_mem _ hq)⟩
  | .dL kvs, fp, ⟨ps, ks, e, h, h1, h2, t⟩, s, k => ⟨ps, ks, e, k p (by rw [e]; simp) _ h, h1, h2, t.mono s fun q hq => k q (by rw [e]; exact List.mem_cons_of_mem _ hq)⟩
theorem OwnAt.there {C : Ct} {D H : Hp} {p : Addr} : ∀ {o : Ow} {fp : List Addr}, OwnAt C D H p o fp → ∀ q ∈ fp, ∃ u, H q = some u
  | .lst ds, fp, ⟨e, vs, h, r⟩ => fun q hq => by rw [e] at hq; rw [List.mem_singleton.mp hq]; exact ⟨_, h⟩
  | .dK ds, fp, ⟨e, vs, h, _, r⟩ => fun q hq => by rw [e] at hq; rw [List.mem_singleton.mp hq]; exact ⟨_, h⟩
  | .dT ds, fp, ⟨e, vs, h, _, r⟩ => fun q hq => by rw [e] at hq; rw [List.mem_singleton.mp hq]; exact ⟨_, h⟩
  | .ins c fs, fp, h => fun q hq => let ⟨u, h, _⟩ := InsAt.there h q hq; ⟨u, h⟩
  | .slf c fs, fp, ⟨_, h⟩ => fun q hq => let ⟨u, h, _⟩ := h.there q hq; ⟨u, h⟩
  | .ll dss, fp, ⟨ps, e, h, t⟩ => fun q hq => by
    rw [e] at hq
    rcases List.mem_cons.mp hq with z | z
    · rw [z]; exact ⟨_, h⟩
    · obtain ⟨vs, h⟩ := t.there q z; exact ⟨_, h⟩
  | .dL kvs, fp, ⟨ps, ks, e, h, h1, h2, t⟩ => fun q hq => by
    rw [e] at hq
    rcases List.mem_cons.mp hq with z | z
    · rw [z]; exact ⟨_, h⟩
    · obtain ⟨vs, h⟩ := t.there q z; exact ⟨_, h⟩
def Ow.dt : Ow → Dt
  | .lst ds => .lst ds
  | .dK kvs => .dic kvs
  | .dT kvs => .dicT kvs
  | .ins c fs => .obj c (fs.map fun x => (x.1, x.2.dt))
  | .slf c fs => .obj c (fs.map fun x => (x.1, x.2.dt))
  | .ll dss => .lst (dss.map .lst)
  | .dL kvs => .dicT (kvs.map fun kv => (kv.1, .lst kv.2))
/-! ### slots -/
inductive Sl where
  | un
  | dat (d : Dt)
  | own (o : Ow)
def SlotOk (C : Ct) (D H : Hp) : Sl → Option V → List Addr → Prop
  | .un, _, fp => fp = []
  | .dat d, x, fp => fp = [] ∧ ∃ v, x = some v ∧ Rp C.k D v d
  | .own o, x, fp => ∃ p, x = some (.ref p) ∧ OwnAt C D H p o fp
def SlotsOk (C : Ct) (D H : Hp) : List Sl → St → List Addr → Prop
  | [], [], fp => fp = []
  | s :: ss, x :: xs, fp => ∃ f1 f2, fp = f1 ++ f2 ∧ SlotOk C D H s x f1 ∧ SlotsOk C D H ss xs f2
  | _, _, _ => False
theorem SlotOk.mono {C : Ct} {D D' H H' : Hp} : ∀ {s : Sl} {x : Option V} {fp : List Addr}, SlotOk C D H s x fp → Sub D D' → (∀ q ∈ fp, ∀ u, H q = some u → H' q = some u) → SlotOk C D' H' s x fp
  | .un, _, _, h, _, _ => h
  | .dat d, _, _, ⟨e, v, h, r⟩, s, _ => ⟨e, v, h, r.mono s⟩
  | .own o, _, _, ⟨p, h, r⟩, s, k => ⟨p, h, r.mono s k⟩
theorem SlotsOk.mono {C : Ct} {D D' H H' : Hp} (s : Sub D D') : ∀ {ss : List Sl} {σ : St} {fp : List Addr}, SlotsOk C D H ss σ fp → (∀ q ∈ fp, ∀ u, H q = some u → H' q = some u) → SlotsOk C D' H' ss σ fp
  | [], [], _, h, _ => h
  | a :: ss, x :: xs, fp, ⟨f1, f2, e, h, r⟩, k => ⟨f1, f2, e, h.mono s fun q hq => k q (by rw [e]; exact List.mem_append_left _ hq), SlotsOk.mono s r fun q hq => k q (by rw [e]; exact List.mem_append_right _ hq)⟩
  | [], _ :: _, _, h, _ => h.elim
  | _ :: _, [], _, h, _ => h.elim
theorem SlotsOk.length {C : Ct} {D H : Hp} : ∀ {ss : List Sl} {σ : St} {fp : List Addr}, SlotsOk C D H ss σ fp → ss.length = σ.length
  | [], [], _, h => rfl
  | _ :: _, _ :: _, _, ⟨_, _, _, _, r⟩ => congrArg (· + 1) r.length
  | [], _ :: _, _, h => h.elim
  | _ :: _, [], _, h => h.elim
theorem SlotsOk.there {C : Ct} {D H : Hp} : ∀ {ss : List Sl} {σ : St} {fp : List Addr}, SlotsOk C D H ss σ fp → ∀ q ∈ fp, ∃ u, H q = some u
  | [], [], _, h => fun q hq => by
    rw [show _ = [] from h] at hq
    cases hq
  | a :: ss, x :: xs, fp, ⟨f1, f2, e, h, r⟩ => fun q hq => by
    rw [e] at hq
    rcases List.mem_append.mp hq with z | z
    · cases a with
      | un => rw [show f1 = [] from h] at z; cases z
      | dat d => rw [h.1] at z; cases z
      | own o => obtain ⟨p, _, q'⟩ := h; exact q'.there q z
    · exact r.there q z
  | [], _ :: _, _, h => h.elim
  | _ :: _, [], _, h => h.elim
/-- a slot that holds data -/
theorem SlotsOk.dat {C : Ct} {D H : Hp} : ∀ {ss : List Sl} {σ : St} {fp : List Addr} {i : Nat} {d : Dt}, SlotsOk C D H ss σ fp → ss[i]? = some (.dat d) → ∃ v, σ[i]? = some (some v) ∧ Rp C.k D v d
  | [], [], _, _, _, _, e => by simp at e
  | a :: ss, x :: xs, fp, 0, d, ⟨f1, f2, _, h, r⟩, e => by
    simp at e
    subst e
    obtain ⟨_, v, e2, q⟩ := h
    exact ⟨v, by simp [e2], q⟩
  | a :: ss, x :: xs, fp, i + 1, d, ⟨f1, f2, _, h, r⟩, e => by
    simp at e
    obtain ⟨v, h1, h2⟩ := r.dat e
    exact ⟨v, by simpa using h1, h2⟩
  | [], _ :: _, _, _, _, h, _ => h.elim
  | _ :: _, [], _, _, _, h, _ => h.elim
/-- a slot stored: what stood there is forgotten -/
theorem SlotsOk.set {C : Ct} {D H : Hp} {s : Sl} {x : Option V} : ∀ {ss : List Sl} {σ : St} {fp fx : List Addr} {i : Nat}, SlotsOk C D H ss σ fp → SlotOk C D H s x fx → i < ss.length → (fx ++ fp).Nodup →
    ∃ fp', SlotsOk C D H (ss.set i s) (σ.set i x) fp' ∧ fp'.Nodup ∧ ∀ q ∈ fp', q ∈ fx ++ fp
  | [], [], _, _, i, _, _, hi, _ => absurd hi (Nat.not_lt_zero _)
  | a :: ss, y :: ys, fp, fx, 0, ⟨f1, f2, e, h, r⟩, hs, _, nd => by
    subst e
    refine ⟨fx ++ f2, ⟨fx, f2, rfl, hs, r⟩, ?_, fun q hq => ?_⟩
    · rw [← List.append_assoc] at nd
      refine nd.sublist ?_
      exact (List.sublist_append_left fx f1).append (List.Sublist.refl f2)
    · rcases List.mem_append.mp hq with z | z
      · exact List.mem_append_left _ z
      · exact List.mem_append_right _ (List.mem_append_right _ z)
  | a :: ss, y :: ys, fp, fx, i + 1, ⟨f1, f2, e, h, r⟩, hs, hi, nd => by
    subst e
    have nd2 : (fx ++ f2).Nodup := nd.sublist ((List.Sublist.refl fx).append (List.sublist_append_right f1 f2))
    obtain ⟨fp', h1, h2, h3⟩ := r.set (i := i) hs (by simpa using hi) nd2
    refine ⟨f1 ++ fp', ⟨f1, fp', rfl, h, h1⟩, ?_, fun q hq => ?_⟩
    · rw [List.nodup_append] at nd ⊢
      obtain ⟨n1, n2, n3⟩ := nd
      rw [List.nodup_append] at n2
      refine ⟨n2.1, h2, fun p hp q hq => ?_⟩
      rcases List.mem_append.mp (h3 q hq) with z | z
      · exact fun e => n3 q z p (List.mem_append_left _ hp) e.symm
      · exact n2.2.2 p hp q z
    · rcases List.mem_append.mp hq with z | z
      · exact List.mem_append_right _ (List.mem_append_left _ z)
      · rcases List.mem_append.mp (h3 q z) with z | z
        · exact List.mem_append_left _ z
        · exact List.mem_append_right _ (List.mem_append_right _ z)
  | [], _ :: _, _, _, _, h, _, _, _ => h.elim
  | _ :: _, [], _, _, _, h, _, _, _ => h.elim
/-! ### states -/
/-- the draws' list stands as w tells -/
structure WdAt (k : Kp) (w : Ds) (D H : Hp) : Prop where
  dr : ∀ p, k.pd = some p → H p = some (.lst [.ref k.sq, .int w.pl, .int w.rem, .int w.seed]) ∧ D p = none ∧ w.ns = k.ns ∧ SqL k.K D k.sq (k.ns.map V.int)
  tb : ∀ p ∈ k.tb, LamX.TabS H p.1 p.2 ∧ D p.1 = none
  tp : ∀ a xs, H a = some (.tup xs) → D a = some (.tup xs)
section
variable {k : Kp} {w : Ds} {D H D' H' : Hp}
theorem WdAt.there (h : WdAt k w D H) {a : Addr} (m : k.mu a) : ∃ u, H a = some u ∧ D a = none := by
  rcases m with m | ⟨q, m⟩
  · obtain ⟨e, d, _⟩ := h.dr a m
    exact ⟨_, e, d⟩
  · obtain ⟨⟨ps, e, _⟩, d⟩ := h.tb _ m
    exact ⟨_, e, d⟩
theorem WdAt.move (h : WdAt k w D H) (s : Sub D D') (up : Sub H H') (n : ∀ p, k.mu p → D' p = none) (t : ∀ a xs, H' a = some (.tup xs) → D' a = some (.tup xs)) : WdAt k w D' H' :=
  ⟨fun p hp => let ⟨h1, _, hn, h3⟩ := h.dr p hp; ⟨up _ _ h1, n p (.inl hp), hn, sqL_sub s h3⟩, fun p hp => ⟨(h.tb p hp).1.ext up, n p.1 (.inr ⟨p.2, hp⟩)⟩, t⟩
theorem tabs_put {P A : Addr} {q : Str} {u o : HO} (h : LamX.TabS H P q) (ha : H A = some u) (hP : A ≠ P) (hu : ∀ c, u ≠ LamX.CodeO c q) : LamX.TabS (upd H A o) P q := by
  obtain ⟨ps, h1, h2, h3⟩ := h
  refine ⟨ps, by rw [upd_ne (Ne.symm hP)]; exact h1, h2, fun pos cv hc => ?_⟩
  obtain ⟨c, e1, e2⟩ := h3 pos cv hc
  refine ⟨c, e1, ?_⟩
  rw [upd_ne fun z => ?_]
  · exact e2
  · rw [z, ha] at e2
    exact hu c (by rw [z]; exact Option.some.inj e2)
/-- an object of the owner's own is written -/
theorem WdAt.put {A : Addr} {u o : HO} (h : WdAt k w D H) (ha : H A = some u) (nm : ¬ k.mu A) (hu : ∀ c q, u ≠ LamX.CodeO c q) (ho : ∀ xs, o ≠ .tup xs := by first | (intro _ h; cases h) | exact fun _ h => HO.noConfusion h) : WdAt k w D (upd H A o) :=
  ⟨fun p hp => by
    obtain ⟨h1, h2, h3⟩ := h.dr p hp
    refine ⟨?_, h2, h3⟩
    rw [upd_ne fun z : p = A => nm (.inl (by rw [← z]; exact hp))]
    exact h1, fun p hp => ⟨tabs_put (h.tb p hp).1 ha (fun z => nm (.inr ⟨p.2, by rw [z]; exact hp⟩)) fun c => hu c p.2, (h.tb p hp).2⟩, fun a xs e => by
    by_cases z : a = A
    · rw [z, upd_same] at e; exact absurd (Option.some.inj e) (ho xs)
    · rw [upd_ne z] at e; exact h.tp a xs e⟩
end
structure Sta (C : Ct) (env : List Sl) (w : Ds) (σ : St) (D H : Hp) (fx : List Addr) : Prop where
  up : Sub D H
  d0 : Sub C.D0 D
  kp : ∀ b o, ¬ C.k.mu b → C.H0 b = some o → H b = some o
  nw : ∀ a, C.D0 a = none → D a ≠ none → C.H0 a = none
  wd : WdAt C.k w D H
  sl : ∃ fp, SlotsOk C D H env σ fp ∧ (fx ++ fp).Nodup ∧ ∀ p ∈ fx ++ fp, D p = none ∧ C.H0 p = none ∧ ¬ C.k.mu p
/-- what may happen: data more, objects more, the draws' list turned -/
structure Ew (C : Ct) (D H D' H' : Hp) (w' : Ds) : Prop where
  sub : Sub D D'
  up : Sub D' H'
  kp : ∀ b o, ¬ C.k.mu b → H b = some o → H' b = some o
  nw : ∀ a, D a = none → D' a ≠ none → H a = none
  wd : WdAt C.k w' D' H'
/-- .. where nothing turned -/
structure Ex (D H D' H' : Hp) : Prop where
  sub : Sub D D'
  up : Sub D' H'
  kp : Sub H H'
  nw : ∀ a, D a = none → D' a ≠ none → H a = none
  tp : ∀ a xs, H' a = some (.tup xs) → H a = some (.tup xs) ∨ D' a = some (.tup xs)
theorem Ex.refl {D H : Hp} (u : Sub D H) : Ex D H D H := ⟨Sub.refl _, u, Sub.refl _, fun _ h n => absurd h n, fun _ _ e => .inl e⟩
theorem none_of {A B : Hp} (s : Sub A B) {a : Addr} (h : B a = none) : A a = none := by
  cases q : A a with
  | none => rfl
  | some o => rw [s a o q] at h; cases h
theorem Ex.trans {D H D1 H1 D2 H2 : Hp} (x : Ex D H D1 H1) (y : Ex D1 H1 D2 H2) : Ex D H D2 H2 :=
  ⟨x.sub.trans y.sub, y.up, x.kp.trans y.kp, fun a h n => by
    cases q : D1 a with
    | none => exact none_of x.kp (y.nw a q n)
    | some o => exact x.nw a h (by rw [q]; simp), fun a xs e => (y.tp a xs e).elim (fun e => (x.tp a xs e).imp id fun e => y.sub _ _ e) .inr⟩
theorem Ex.ew {C : Ct} {D H D' H' : Hp} {w : Ds} (x : Ex D H D' H') (h : WdAt C.k w D H) : Ew C D H D' H' w :=
  have hn : ∀ p, C.k.mu p → D' p = none := fun p m => by
    obtain ⟨u, h1, h2⟩ := h.there m
    cases z : D' p with
    | none => rfl
    | some u =>
      have := x.nw p h2 (by rw [z]; simp)
      rw [h1] at this; cases this
  ⟨x.sub, x.up, fun b o _ e => x.kp b o e, x.nw, fun p hp => let ⟨h1, h2, h4, h3⟩ := h.dr p hp; ⟨x.kp _ _ h1, hn p (.inl hp), h4, sqL_sub x.sub h3⟩, fun p hp => ⟨(h.tb p hp).1.ext x.kp, hn p.1 (.inr ⟨p.2, hp⟩)⟩, fun a xs e => (x.tp a xs e).elim (fun e => x.sub _ _ (h.tp a xs e)) id⟩
theorem Sta.ew {C : Ct} {env : List Sl} {w w' : Ds} {σ : St} {D H D' H' : Hp} {fx : List Addr} (S : Sta C env w σ D H fx) (hx : ∀ q ∈ fx, ∃ u, H q = some u) (x : Ew C D H D' H' w') : Sta C env w' σ D' H' fx := by
  obtain ⟨fp, h1, h2, h3⟩ := S.sl
  have th : ∀ q ∈ fx ++ fp, ∃ u, H q = some u := fun q hq => (List.mem_append.mp hq).elim (hx q) (h1.there q)
  refine ⟨x.up, S.d0.trans x.sub, fun b o hb e => x.kp b o hb (S.kp b o hb e), fun a h n => ?_, x.wd, fp, h1.mono x.sub fun q hq u e => x.kp q u (h3 q (List.mem_append_right _ hq)).2.2 e, h2, fun p hp => ⟨?_, (h3 p hp).2⟩⟩
  · cases q : D a with
    | none =>
      have e := x.nw a q n
      cases z : C.H0 a with
      | none => rfl
      | some u =>
        by_cases hp : C.k.mu a
        · obtain ⟨_, e1, _⟩ := S.wd.there hp
          rw [e] at e1; cases e1
        · rw [S.kp a u hp z] at e; cases e
    | some u => exact S.nw a h (by rw [q]; simp)
  · cases z : D' p with
    | none => rfl
    | some u =>
      have e := x.nw p (h3 p hp).1 (by rw [z]; simp)
      obtain ⟨v, hv⟩ := th p hp
      rw [e] at hv; cases hv
theorem Sta.ex {C : Ct} {env : List Sl} {w : Ds} {σ : St} {D H D' H' : Hp} (S : Sta C env w σ D H []) (x : Ex D H D' H') : Sta C env w σ D' H' [] := S.ew (fun _ h => nomatch h) (x.ew S.wd)
/-- a new object becomes data -/
theorem Ex.new {D H : Hp} {p : Addr} {o : HO} (u : Sub D H) (h : H p = none) : Ex D H (upd D p o) (upd H p o) := by
  have hd : D p = none := none_of u h
  refine ⟨fun a q e => ?_, fun a q e => ?_, fun a q e => ?_, fun a e n => ?_, fun a xs e => ?_⟩
  · rw [upd_ne (ne_of_none e hd)]; exact e
  · by_cases z : a = p
    · subst z; rw [upd_same] at e ⊢; exact e
    · rw [upd_ne z] at e ⊢; exact u a q e
  · rw [upd_ne (ne_of_none e h)]; exact e
  · by_cases z : a = p
    · subst z; exact h
    · rw [upd_ne z, e] at n; exact absurd rfl n
  · by_cases z : a = p
    · subst z; rw [upd_same] at e ⊢; exact .inr e
    · rw [upd_ne z] at e; exact .inl e
/-- a new object that stays out of the data -/
theorem Ex.hid {D H : Hp} {p : Addr} {o : HO} (u : Sub D H) (h : H p = none) (ho : ∀ xs, o ≠ .tup xs := by first | (intro _ h; cases h) | exact fun _ h => HO.noConfusion h) : Ex D H D (upd H p o) := by
  refine ⟨Sub.refl _, fun a q e => ?_, fun a q e => ?_, fun a e n => absurd e n, fun a xs e => ?_⟩
  · rw [upd_ne (ne_of_none (u a q e) h)]; exact u a q e
  · rw [upd_ne (ne_of_none e h)]; exact e
  · by_cases z : a = p
    · rw [z, upd_same] at e; exact absurd (Option.some.inj e) (ho xs)
    · rw [upd_ne z] at e; exact .inl e
end Dn
end
section
/-! Judgements: a piece of text and what it does to data. -/
namespace Dn
open PySem L2
/-! ### contexts -/
structure Bs where
  P : Program
  w : World
  K : PySem.W.Frag
  mg : Str → Option Value
  base : Heap
  cls : Str → Option Addr
  tb : List (Addr × Str)
structure Fc extends Bs where
  N : List Str
  sc : Scope
  lv : Nat
  calm : Bool
  top : Bool
  cd : Option (Addr × Addr)
  qual : Str
  xa : Option (Addr × Addr × Addr) := none
  bc : Str → Bool := fun _ => false
/-- the context of an except suite that holds the exception at p.1, of the class p.2.1, with the dict p.2.2 -/
def SuiteAt (X : Cx) (p : Addr × Addr × Addr) : Prop := ∃ (X' : Cx) (oe : Obj) (pn : List (Addr × Obj)), X = X'.suite p.1 ((p.1, oe) :: pn) ∧ Zc (.ref p.2.1) (some p.2.2) oe ∧ ∃ vs, oe.data = .fields vs
structure RoomU (k : Nat) (A : Around) : Prop where
  dp : A.depth + 3 * k + 5 < recursionLimit
  un : A.units + 16 * k + 200 < cLine
theorem RoomU.units {k : Nat} {A : Around} (r : RoomU k A) : A.units + 64 < cLine := by have := r.un; omega
theorem roomU_of {k : Nat} {A : Around} (r : Room k A) : RoomU k A := ⟨r.dp, r.un⟩
structure On (F : Fc) (X : Cx) : Prop where
  prog : X.prog = F.P
  w : X.w = F.w
  K : X.K = F.K
  mg : X.mg = F.mg
  base : X.base = F.base
  N : X.N = F.N
  sc : X.env.scope = F.sc
  room : RoomU F.lv X.A
  hd : F.calm = true → X.A.handled = none
  calm : F.calm = true → X.calm = true
  fn : F.top = true → ∀ x, X.fn x = true
  cd : F.top = true → ∀ q, F.cd = some q → X.env.code = .ref q.1 ∧ X.env.qual = F.qual
  stk : F.top = true → X.stack = X.env :: X.outer ∧ X.env.frame = some X.env.locals
  xa : F.top = true → ∀ p, F.xa = some p → SuiteAt X p
  fnb : ∀ x, F.bc x = true → X.fn x = true
theorem On.full {F : Fc} {X : Cx} (O : On F X) (hc : F.calm = true) : Room F.lv X.A := ⟨O.hd hc, O.room.dp, O.room.un⟩
structure Tk (X : Cx) (W : WX) : Prop where
  tk : Takes X W
  ps : PassesOwn (model X.prog X.w) X.A X.env X.xe
abbrev W0 : WX := fun _ _ _ _ => False
structure Kin (F : Fc) (C : Ct) : Prop where
  K : C.k.K = F.K
  cls : C.k.cls = F.cls
  tb : C.k.tb = F.tb
  xa : C.k.xa = F.xa
/-! ### outcomes -/
abbrev Env := List Sl
abbrev GE := Env → Ds → Out Dt
abbrev GT := Env → Ds → Out Bool
abbrev GA := Env → Ds → Out (List Dt)
abbrev GF := Env → Ds → Out Ow
inductive OutS where
  | nx (e : Env) (w : Ds)
  | bk (e : Env) (w : Ds)
  | ct (e : Env) (w : Ds)
  | ret (d : Dt) (w : Ds)
  | rtf (o : Ow) (w : Ds)
  | exc (c : Str) (fs : List (Str × Dt)) (e : Env) (w : Ds)
  | bad
abbrev GS := Env → Ds → OutS
def ExcAt (C : Ct) (D H : Hp) (c : Str) (fs : List (Str × Dt)) (Ca d : Addr) : Prop :=
  C.k.cls c = some Ca ∧ ∃ vs, D d = some (.xd vs) ∧ vs.map (·.1) = fs.map (·.1) ∧ RpL C.k D (vs.map (·.2)) (fs.map (·.2))
def PostX (C : Ct) (env : Env) (σ : St) (W : WX) (c : Str) (fs : List (Str × Dt)) (w : Ds) : Prop :=
  ∀ Ca d D' H', Sta C env w σ D' H' [] → ExcAt C D' H' c fs Ca d → W (.ref Ca) (some d) σ H'
def PostE (C : Ct) (env : Env) (σ : St) (D : Hp) (W : WX) (o : Out Dt) (Q : VK) : Prop := match o with
  | .ok r w => ∀ v D' H', Sta C env w σ D' H' [] → Sub D D' → Rp C.k D' v r → Q v H'
  | .exc c fs w => PostX C env σ W c fs w
  | .bad => False
def PostT (C : Ct) (env : Env) (σ : St) (D : Hp) (W : WX) (o : Out Bool) (Q : Bool → Hp → Prop) : Prop := match o with
  | .ok r w => ∀ D' H', Sta C env w σ D' H' [] → Sub D D' → Q r H'
  | .exc c fs w => PostX C env σ W c fs w
  | .bad => False
def PostA (C : Ct) (env : Env) (σ : St) (D : Hp) (W : WX) (o : Out (List Dt)) (Q : List V → Hp → Prop) : Prop := match o with
  | .ok rs w => ∀ vs D' H', Sta C env w σ D' H' [] → Sub D D' → RpL C.k D' vs rs → Q vs H'
  | .exc c fs w => PostX C env σ W c fs w
  | .bad => False
def PostF (C : Ct) (env : Env) (σ : St) (D : Hp) (W : WX) (o : Out Ow) (Q : VK) : Prop := match o with
  | .ok r w => ∀ p fp D' H', Sta C env w σ D' H' fp → Sub D D' → OwnAt C D' H' p r fp → Q (.ref p) H'
  | .exc c fs w => PostX C env σ W c fs w
  | .bad => False
def PostS (C : Ct) (W : WX) (o : OutS) (Dn : Ends) : Prop := match o with
  | .nx e w => ∀ σ D H, Sta C e w σ D H [] → Dn.nx σ H
  | .bk e w => ∀ σ D H, Sta C e w σ D H [] → Dn.bk σ H
  | .ct e w => ∀ σ D H, Sta C e w σ D H [] → Dn.ct σ H
  | .ret d w => ∀ e σ v D H, Sta C e w σ D H [] → Rp C.k D v d → Dn.rt v H
  | .rtf o w => ∀ e σ p fp D H, Sta C e w σ D H fp → OwnAt C D H p o fp → Dn.rt (.ref p) H
  | .exc c fs e w => ∀ σ, PostX C e σ W c fs w
  | .bad => False
/-! ### judgements -/
def DenE (F : Fc) (W : WX) (t : TE) (g : GE) : Prop := ∀ C env w σ D H Q, Kin F C → Sta C env w σ D H [] → PostE C env σ D W (g env w) Q → t σ H Q
def DenT (F : Fc) (W : WX) (t : TT) (g : GT) : Prop := ∀ C env w σ D H Q, Kin F C → Sta C env w σ D H [] → PostT C env σ D W (g env w) Q → t σ H Q
def DenL (F : Fc) (W : WX) (t : TA) (g : GA) : Prop := ∀ C env w σ D H Q, Kin F C → Sta C env w σ D H [] → PostA C env σ D W (g env w) Q → t σ H Q
def DenF (F : Fc) (W : WX) (t : TE) (g : GF) : Prop := ∀ C env w σ D H Q, Kin F C → Sta C env w σ D H [] → PostF C env σ D W (g env w) Q → t σ H Q
def DenS (F : Fc) (W : WX) (t : TS) (g : GS) : Prop := ∀ C env w σ D H Dn, Kin F C → Sta C env w σ D H [] → PostS C W (g env w) Dn → t Dn σ H
structure DE (F : Fc) (e : Expr) (g : GE) : Prop where
  ex : ∃ t : WX → TE, (∀ X W, On F X → Tk X W → PE X e (t W)) ∧ ∀ W, DenE F W (t W) g
structure DF (F : Fc) (e : Expr) (g : GF) : Prop where
  ex : ∃ t : WX → TE, (∀ X W, On F X → Tk X W → PE X e (t W)) ∧ ∀ W, DenF F W (t W) g
structure DT (F : Fc) (e : Expr) (g : GT) : Prop where
  ex : ∃ t : WX → TT, (∀ X W, On F X → Tk X W → PT X e (t W)) ∧ ∀ W, DenT F W (t W) g
structure DW (F : Fc) (e : Expr) (g : GT) : Prop where
  ex : ∃ t : WX → TT, (∀ X W, On F X → Tk X W → PW X e (t W)) ∧ ∀ W, DenT F W (t W) g
structure DL (F : Fc) (es : List Expr) (g : GA) : Prop where
  ex : ∃ t : WX → TA, (∀ X W, On F X → Tk X W → PA X es (t W)) ∧ ∀ W, DenL F W (t W) g
structure DS (F : Fc) (st : Stmt) (g : GS) : Prop where
  ex : ∃ t : WX → TS, (∀ X W, On F X → Tk X W → PS X st (t W)) ∧ ∀ W, DenS F W (t W) g
structure DB (F : Fc) (st : List Stmt) (g : GS) : Prop where
  ex : ∃ t : WX → TS, (∀ X W, On F X → Tk X W → PSs X st (t W)) ∧ ∀ W, DenS F W (t W) g
/-! ### the pieces of outcomes -/
def gOk (r : Dt) : GE := fun _ w => .ok r w
def gVar (i : Nat) : GE := fun env w => match env[i]? with
  | some (.dat d) => .ok d w
  | _ => .bad
def gBind1 (f : Dt → Option Dt) (ga : GE) : GE := fun env w => (ga env w).bind fun a w1 => match f a with
  | some r => .ok r w1
  | none => .bad
def gBin (f : Dt → Dt → Option Dt) (ga gb : GE) : GE := fun env w => (ga env w).bind fun a w1 => (gb env w1).bind fun b w2 => match f a b with
  | some r => .ok r w2
  | none => .bad
def gNil : GA := fun _ w => .ok [] w
def gCons (ga : GE) (gr : GA) : GA := fun env w => (ga env w).bind fun a w1 => (gr env w1).bind fun r w2 => .ok (a :: r) w2
def gArgs (f : List Dt → Option Dt) (ga : GA) : GE := fun env w => (ga env w).bind fun a w1 => match f a with
  | some r => .ok r w1
  | none => .bad
def gArgsF (f : List Dt → Option Ow) (ga : GA) : GF := fun env w => (ga env w).bind fun a w1 => match f a with
  | some r => .ok r w1
  | none => .bad
/-- a fresh thing handed on as data -/
def gFrz (g : GF) : GE := fun env w => (g env w).bind fun o w1 => .ok o.dt w1
/-! ### the value rules -/
abbrev Pos2 (k : Kp) (r : R2) (f : Dt → Dt → Option Dt) : Prop := ∀ D H x y a b z, Sub D H → Rp k D x a → Rp k D y b → f a b = some z → ∀ Q : VK, (∀ v D' H', Ex D H D' H' → Rp k D' v z → Q v H') → r x y H Q
abbrev PosN (k : Kp) (r : List V → Hp → VK → Prop) (f : List Dt → Option Dt) : Prop := ∀ D H xs as z, Sub D H → RpL k D xs as → f as = some z → ∀ Q : VK, (∀ v D' H', Ex D H D' H' → Rp k D' v z → Q v H') → r xs H Q
/-- .. that makes a new thing -/
abbrev NewN (k : Kp) (r : List V → Hp → VK → Prop) (f : List Dt → Option Ow) : Prop := ∀ D H xs as z, Sub D H → RpL k D xs as → f as = some z → ∀ Q : VK,
  (∀ p D' H' fp, Ex D H D' H' → (∀ C : Ct, C.k = k → OwnAt C D' H' p z fp) → fp.Nodup → (∀ q ∈ fp, H q = none ∧ D' q = none) → Q (.ref p) H') → r xs H Q
section
variable {F : Fc} {C : Ct} {env : Env} {w : Ds} {σ : St} {D H : Hp}
theorem Sta.len (S : Sta C env w σ D H []) : env.length = σ.length := let ⟨_, h, _⟩ := S.sl; h.length
theorem Sta.dat (S : Sta C env w σ D H []) {i : Nat} {d : Dt} (e : env[i]? = some (.dat d)) : ∃ v, σ[i]? = some (some v) ∧ Rp C.k D v d := let ⟨_, h, _⟩ := S.sl; h.dat e
theorem den_var (i : Nat) (W : WX) : DenE F W (tVar i) (gVar i) := by
  intro C env w σ D H Q K S p
  unfold gVar at p
  cases e : env[i]? with
  | none => rw [e] at p; exact p.elim
  | some s =>
    rw [e] at p
    cases s with
    | un => exact p.elim
    | own o => exact p.elim
    | dat d =>
      obtain ⟨v, h, r⟩ := S.dat e
      exact ⟨v, h, p v D H S (Sub.refl _) r⟩
theorem den_bin {W : WX} {ta tb : TE} {ga gb : GE} {r : R2} {f : Dt → Dt → Option Dt} (ha : DenE F W ta ga) (hb : DenE F W tb gb) (hr : ∀ k : Kp, k.K = F.K → k.cls = F.cls → Pos2 k r f) : DenE F W (tOp r ta tb) (gBin f ga gb) := by
  intro C env w σ D H Q K S p
  refine ha C env w σ D H _ K S ?_
  unfold gBin at p
  cases ea : ga env w with
  | bad => rw [ea] at p; exact p.elim
  | exc c fs w1 => rw [ea] at p; exact p
  | ok a w1 =>
    rw [ea] at p
    intro x D1 H1 S1 s1 ra
    refine hb C env w1 σ D1 H1 _ K S1 ?_
    simp only [Out.bind] at p
    cases eb : gb env w1 with
    | bad => rw [eb] at p; exact p.elim
    | exc c fs w2 => rw [eb] at p; exact p
    | ok b w2 =>
      rw [eb] at p
      intro y D2 H2 S2 s2 rb
      simp only [Out.bind] at p
      cases ef : f a b with
      | none => rw [ef] at p; exact p.elim
      | some z =>
        rw [ef] at p
        exact hr C.k K.K K.cls D2 H2 x y a b z S2.up (ra.mono s2) rb ef Q fun v D' H' x' rv => p v D' H' (S2.ex x') (s1.trans (s2.trans x'.sub)) rv
theorem den_nil {W : WX} : DenL F W tNil gNil := fun C env w σ D H Q K S p => p [] D H S (Sub.refl _) .nil
theorem den_cons {W : WX} {ta : TE} {tr : TA} {ga : GE} {gr : GA} (ha : DenE F W ta ga) (hb : DenL F W tr gr) : DenL F W (tCons ta tr) (gCons ga gr) := by
  intro C env w σ D H Q K S p
  refine ha C env w σ D H _ K S ?_
  unfold gCons at p
  cases ea : ga env w with
  | bad => rw [ea] at p; exact p.elim
  | exc c fs w1 => rw [ea] at p; exact p
  | ok a w1 =>
    rw [ea] at p
    intro x D1 H1 S1 s1 ra
    refine hb C env w1 σ D1 H1 _ K S1 ?_
    simp only [Out.bind] at p
    cases eb : gr env w1 with
    | bad => rw [eb] at p; exact p.elim
    | exc c fs w2 => rw [eb] at p; exact p
    | ok b w2 =>
      rw [eb] at p
      intro y D2 H2 S2 s2 rb
      exact p (x :: y) D2 H2 S2 (s1.trans s2) (.cons (ra.mono s2) rb)
theorem den_args {W : WX} {ta : TA} {ga : GA} {r : List V → Hp → VK → Prop} {f : List Dt → Option Dt} (ha : DenL F W ta ga) (hr : ∀ k : Kp, k.K = F.K → k.cls = F.cls → PosN k r f) : DenE F W (fun σ H Q => ta σ H fun xs H1 => r xs H1 Q) (gArgs f ga) := by
  intro C env w σ D H Q K S p
  refine ha C env w σ D H _ K S ?_
  unfold gArgs at p
  cases ea : ga env w with
  | bad => rw [ea] at p; exact p.elim
  | exc c fs w1 => rw [ea] at p; exact p
  | ok a w1 =>
    rw [ea] at p
    intro x D1 H1 S1 s1 ra
    simp only [Out.bind] at p
    cases ef : f a with
    | none => rw [ef] at p; exact p.elim
    | some z =>
      rw [ef] at p
      exact hr C.k K.K K.cls D1 H1 x a z S1.up ra ef Q fun v D' H' x' rv => p v D' H' (S1.ex x') (s1.trans x'.sub) rv
/-- a new footprint beside what is owned -/
theorem Sta.fresh (S : Sta C env w σ D H []) {D' H' : Hp} (x : Ex D H D' H') {fp : List Addr} (nd : fp.Nodup) (hn : ∀ q ∈ fp, H q = none ∧ D' q = none) : Sta C env w σ D' H' fp := by
  have S' := S.ex x
  obtain ⟨fs, h1, h2, h3⟩ := S'.sl
  obtain ⟨fs0, g1, g2, g3⟩ := S.sl
  have hH0 : ∀ q ∈ fp, C.H0 q = none ∧ ¬ C.k.mu q := fun q hq => by
    have e := (hn q hq).1
    refine ⟨?_, fun z => ?_⟩
    · cases z : C.H0 q with
      | none => rfl
      | some u =>
        by_cases hp : C.k.mu q
        · obtain ⟨_, e1, _⟩ := S.wd.there hp
          rw [e] at e1; cases e1
        · rw [S.kp q u hp z] at e; cases e
    · obtain ⟨_, e1, _⟩ := S.wd.there z
      rw [e] at e1; cases e1
  -- the slots' footprint stood before
  have k2 : SlotsOk C D' H' env σ fs0 := g1.mono x.sub fun q _ u e => x.kp q u e
  refine ⟨S'.up, S'.d0, S'.kp, S'.nw, S'.wd, fs0, k2, ?_, fun q hq => ?_⟩
  · rw [List.nodup_append]
    refine ⟨nd, by simpa using g2, fun a ha b hb e => ?_⟩
    obtain ⟨u, hu⟩ := g1.there b hb
    rw [← e, (hn a ha).1] at hu
    cases hu
  · rcases List.mem_append.mp hq with z | z
    · exact ⟨(hn q z).2, hH0 q z⟩
    · have := g3 q (List.mem_append_right _ z)
      refine ⟨?_, this.2⟩
      cases zz : D' q with
      | none => rfl
      | some u =>
        obtain ⟨v, hv⟩ := g1.there q z
        rw [x.nw q this.1 (by rw [zz]; simp)] at hv
        cases hv
theorem den_argsF {W : WX} {ta : TA} {ga : GA} {r : List V → Hp → VK → Prop} {f : List Dt → Option Ow} (ha : DenL F W ta ga) (hr : ∀ k : Kp, k.K = F.K → k.cls = F.cls → NewN k r f) : DenF F W (fun σ H Q => ta σ H fun xs H1 => r xs H1 Q) (gArgsF f ga) := by
  intro C env w σ D H Q K S p
  refine ha C env w σ D H _ K S ?_
  unfold gArgsF at p
  cases ea : ga env w with
  | bad => rw [ea] at p; exact p.elim
  | exc c fs w1 => rw [ea] at p; exact p
  | ok a w1 =>
    rw [ea] at p
    intro x D1 H1 S1 s1 ra
    simp only [Out.bind] at p
    cases ef : f a with
    | none => rw [ef] at p; exact p.elim
    | some z =>
      rw [ef] at p
      exact hr C.k K.K K.cls D1 H1 x a z S1.up ra ef Q fun q D' H' fp x' ow nd hn => p q fp D' H' (S1.fresh x' nd hn) (s1.trans x'.sub) (ow C rfl)
/-- what is owned becomes data -/
theorem Sta.frz {p : Addr} {o : Ow} {fp fx : List Addr} (S : Sta C env w σ D H (fp ++ fx)) (h : OwnAt C D H p o fp) : ∃ D', Sta C env w σ D' H fx ∧ Sub D D' ∧ Rp C.k D' (.ref p) o.dt := by
  obtain ⟨fs, h1, h2, h3⟩ := S.sl
  have th := h.there
  -- the data and the footprint together
  let D' : Hp := fun a => if a ∈ fp then H a else D a
  have eD : ∀ a, a ∈ fp → D' a = H a := fun a z => if_pos z
  have nD : ∀ a, a ∉ fp → D' a = D a := fun a z => if_neg z
  have sub : Sub D D' := fun a u e => by
    by_cases z : a ∈ fp
    · have := (h3 a (by simp [z])).1
      rw [this] at e; cases e
    · rw [nD a z]; exact e
  have up : Sub D' H := fun a u e => by
    by_cases z : a ∈ fp
    · rw [← eD a z]; exact e
    · rw [nD a z] at e; exact S.up a u e
  have nd3 : ∀ q ∈ fx ++ fs, q ∉ fp := fun q hq hp => by
    rw [List.append_assoc, List.nodup_append] at h2
    exact h2.2.2 q hp q hq rfl
  refine ⟨D', ⟨up, S.d0.trans sub, S.kp, fun a e n => ?_, S.wd.move sub (Sub.refl _) (fun q hq => ?_) (fun a xs e => sub _ _ (S.wd.tp a xs e)), fs, h1.mono sub fun _ _ _ e => e, ?_, fun q hq => ?_⟩, sub, ?_⟩
  · by_cases z : a ∈ fp
    · exact (h3 a (by simp [z])).2.1
    · rw [nD a z] at n; exact S.nw a e n
  · obtain ⟨_, e1, e2⟩ := S.wd.there hq
    rw [nD q fun z => (h3 q (by simp [z])).2.2 hq]
    exact e2
  · rw [List.append_assoc, List.nodup_append] at h2
    exact h2.2.1
  · have := h3 q (by
      rcases List.mem_append.mp hq with z | z
      · simp [z]
      · simp [z])
    exact ⟨by rw [nD q (nd3 q hq)]; exact this.1, this.2⟩
  · cases o with
    | dT kvs =>
      obtain ⟨e, vs, hv, q, r⟩ := h
      exact .dicT ((eD p (by rw [e]; simp)).trans hv) q (r.mono sub)
    | lst ds =>
      obtain ⟨e, vs, hv, r⟩ := h
      exact .lst ((eD p (by rw [e]; simp)).trans hv) (r.mono sub)
    | dK kvs =>
      obtain ⟨e, vs, hv, q, r⟩ := h
      exact .dic ((eD p (by rw [e]; simp)).trans hv) q (r.mono sub)
    | ins c fs' => exact (InsAt.mono h sub fun _ _ _ x => x).rp fun q hq u x => (eD q hq).trans x
    | slf c fs' => exact (InsAt.mono h.2 sub fun _ _ _ x => x).rp fun q hq u x => (eD q hq).trans x
    | ll dss =>
      obtain ⟨ps, e, hv, t⟩ := h
      refine .lst ((eD p (by rw [e]; simp)).trans hv) ((t.mono sub fun _ _ _ x => x).rpl fun q hq u x => (eD q (by rw [e]; exact List.mem_cons_of_mem _ hq)).trans x)
    | dL kvs =>
      obtain ⟨ps, ks, e, hv, h4, h5, t⟩ := h
      refine .dicT ((eD p (by rw [e]; simp)).trans hv) (by rw [h4]; simp [List.map_map, Function.comp_def]) ?_
      have := (t.mono sub fun _ _ _ x => x).rpl fun q hq u x => (eD q (by rw [e]; exact List.mem_cons_of_mem _ hq)).trans x
      rw [h5]
      simpa [List.map_map, Function.comp_def] using this
theorem den_frz {W : WX} {t : TE} {g : GF} (h : DenF F W t g) : DenE F W t (gFrz g) := by
  intro C env w σ D H Q K S p
  refine h C env w σ D H Q K S ?_
  unfold gFrz at p
  cases ea : g env w with
  | bad => rw [ea] at p; exact p.elim
  | exc c fs w1 => rw [ea] at p; exact p
  | ok o w1 =>
    rw [ea] at p
    simp only [Out.bind] at p
    intro q fp D1 H1 S1 s1 ow
    have S1' : Sta C env w1 σ D1 H1 (fp ++ []) := by rw [List.append_nil]; exact S1
    obtain ⟨D2, S2, s2, r⟩ := S1'.frz ow
    exact p _ D2 H1 S2 (s1.trans s2) r
end
/-! ### the text's own -/
section
variable {F : Fc}
theorem de_var {x : Str} {pos : PySem.Pos} (i : Nat) (hN : F.N[i]? = some x) (hv : Vis F.sc x) (hd : (x == ("__debug__" : Str)) = false := by decide +kernel) (hcd : (x == ("__classdict__" : Str)) = false := by decide +kernel) : DE F (.Name x pos) (gVar i) :=
  ⟨⟨fun _ => tVar i, fun X W O _ => pe_var (by rw [O.N]; exact hN) (by rw [O.sc]; exact hv) hd hcd, den_var i⟩⟩
theorem de_c {e : Expr} {v : V} {d : Dt} (h : ∀ X, PE X e (tC v)) (r : ∀ k D, Rp k D v d) : DE F e (gOk d) :=
  ⟨⟨fun _ => tC v, fun X _ _ _ => h X, fun W C env w σ D H Q K S p => p v D H S (Sub.refl _) (r _ _)⟩⟩
theorem de_int {i : Int} {j : Nat} {pos : PySem.Pos} : DE F (.Constant (.int i) j pos) (gOk (.int i)) := de_c (fun _ => pe_int) fun _ _ => .int i
theorem de_bl {i : Bool} {j : Nat} {pos : PySem.Pos} : DE F (.Constant (.bool i) j pos) (gOk (.bl i)) := de_c (fun _ => pe_bl) fun _ _ => .bl i
theorem de_non {j : Nat} {pos : PySem.Pos} : DE F (.Constant .none j pos) (gOk .non) := de_c (fun _ => pe_non) fun _ _ => .non
theorem de_str {x : Str} {j : Nat} {pos : PySem.Pos} : DE F (.Constant (.str x) j pos) (gOk (.str x)) := de_c (fun _ => pe_str) fun _ _ => .str x
/-- a global that holds a plain value -/
theorem de_glob {x : Str} {v : V} {u : Value} {d : Dt} {pos : PySem.Pos} (hg : F.sc.names.lookup x = some .globalImplicit) (hm : F.mg x = some u) (r : RelV v u) (rp : ∀ k : Kp, k.K = F.K → k.cls = F.cls → ∀ D, Rp k D v d)
    (hd : (x == ("__debug__" : Str)) = false := by decide +kernel) : DE F (.Name x pos) (gOk d) :=
  ⟨⟨fun _ => tC v, fun X _ O _ => pe_glob (by show X.env.scope.names.lookup x = _; rw [O.sc]; exact hg) (by rw [O.mg]; exact hm) r hd, fun W C env w σ D H Q K S p => p v D H S (Sub.refl _) (rp _ K.K K.cls _)⟩⟩
theorem de_frz {e : Expr} {g : GF} (h : DF F e g) : DE F e (gFrz g) := let ⟨t, a, b⟩ := h.ex; ⟨⟨t, a, fun W => den_frz (b W)⟩⟩
theorem dl_nil : DL F [] gNil := ⟨⟨fun _ => tNil, fun _ _ _ _ => pa_nil, fun _ => den_nil⟩⟩
theorem dl_cons {e : Expr} {es : List Expr} {ga : GE} {gr : GA} (ha : DE F e ga) (hr : DL F es gr) (hs : ∀ env, starEach (e :: es) env = (false, eval e env) :: starEach es env := by intro _; rfl) : DL F (e :: es) (gCons ga gr) := by
  obtain ⟨ta, a1, a2⟩ := ha.ex
  obtain ⟨tr, r1, r2⟩ := hr.ex
  exact ⟨⟨fun W => tCons (ta W) (tr W), fun X W O T => pa_cons (a1 X W O T) (r1 X W O T) (hs _), fun W => den_cons (a2 W) (r2 W)⟩⟩
/-- an operator -/
structure OpK (F : Fc) (op : Operator) (f : Dt → Dt → Option Dt) : Prop where
  ex : ∃ r, (∀ X, On F X → OpR X (binaryOp op) r) ∧ ∀ k : Kp, k.K = F.K → k.cls = F.cls → Pos2 k r f
theorem de_op {a b : Expr} {op : Operator} {pos : PySem.Pos} {f : Dt → Dt → Option Dt} {ga gb : GE} (ho : OpK F op f) (ha : DE F a ga) (hb : DE F b gb) : DE F (.BinOp a op b pos) (gBin f ga gb) := by
  obtain ⟨r, o1, o2⟩ := ho.ex
  obtain ⟨ta, a1, a2⟩ := ha.ex
  obtain ⟨tb, b1, b2⟩ := hb.ex
  exact ⟨⟨fun W => tOp r (ta W) (tb W), fun X W O T => pe_op (o1 X O) (a1 X W O T) (b1 X W O T), fun W => den_bin (a2 W) (b2 W) o2⟩⟩
/-- a comparison -/
structure CmK (F : Fc) (op : CmpOp) (f : Dt → Dt → Option Dt) : Prop where
  ex : ∃ r, (∀ X, On F X → OpR X (compareOp op) r) ∧ ∀ k : Kp, k.K = F.K → k.cls = F.cls → Pos2 k r f
theorem de_cmp {a b : Expr} {op : CmpOp} {pos : PySem.Pos} {f : Dt → Dt → Option Dt} {ga gb : GE} (ho : CmK F op f) (ha : DE F a ga) (hb : DE F b gb) (hm : behindInMarks op b = false := by rfl) : DE F (.Compare a [op] [b] pos) (gBin f ga gb) := by
  obtain ⟨r, o1, o2⟩ := ho.ex
  obtain ⟨ta, a1, a2⟩ := ha.ex
  obtain ⟨tb, b1, b2⟩ := hb.ex
  exact ⟨⟨fun W => tOp r (ta W) (tb W), fun X W O T => pe_cmpR (o1 X O) (a1 X W O T) (b1 X W O T) hm, fun W => den_bin (a2 W) (b2 W) o2⟩⟩
/-- an expression's truth, where it is a bool -/
def gTst (g : GE) : GT := fun env w => (g env w).bind fun a w1 => match a with
  | .bl b => .ok b w1
  | _ => .bad
theorem den_tst {W : WX} {t : TE} {g : GE} (h : DenE F W t g) : DenT F W (tTest t) (gTst g) := by
  intro C env w σ D H Q K S p
  refine h C env w σ D H _ K S ?_
  unfold gTst at p
  cases ea : g env w with
  | bad => rw [ea] at p; exact p.elim
  | exc c fs w1 => rw [ea] at p; exact p
  | ok o w1 =>
    rw [ea] at p
    simp only [Out.bind] at p
    intro v D' H' S' s' r
    cases o with
    | bl b => cases r; exact ⟨b, rfl, p D' H' S' s'⟩
    | _ => exact p.elim
theorem dt_cmp {a b : Expr} {op : CmpOp} {pos : PySem.Pos} {f : Dt → Dt → Option Dt} {ga gb : GE} (ho : CmK F op f) (ha : DE F a ga) (hb : DE F b gb) (hm : behindInMarks op b = false := by rfl) : DT F (.Compare a [op] [b] pos) (gTst (gBin f ga gb)) := by
  obtain ⟨r, o1, o2⟩ := ho.ex
  obtain ⟨ta, a1, a2⟩ := ha.ex
  obtain ⟨tb, b1, b2⟩ := hb.ex
  exact ⟨⟨fun W => tTest (tOp r (ta W) (tb W)), fun X W O T => pt_cmpR (o1 X O) (a1 X W O T) (b1 X W O T) hm, fun W => den_tst (den_bin (a2 W) (b2 W) o2)⟩⟩
/-- a call's or a name's value as a test -/
theorem dt_val {e : Expr} {g : GE} (h : DE F e g) (he : ∀ env whole, isTrue e env whole = (do let v ← whole; standAt e.pos; holding [v] (truthy v)) := by intro _ _; rfl) : DT F e (gTst g) := by
  obtain ⟨t, a1, a2⟩ := h.ex
  exact ⟨⟨fun W => tTest (t W), fun X W O T => pt_val (a1 X W O T) (he _), fun W => den_tst (a2 W)⟩⟩
def gNot (g : GT) : GT := fun env w => (g env w).bind fun b w1 => .ok (!b) w1
def gAnd (g h : GT) : GT := fun env w => (g env w).bind fun b w1 => if b then h env w1 else .ok false w1
def gOr (g h : GT) : GT := fun env w => (g env w).bind fun b w1 => if b then .ok true w1 else h env w1
theorem den_not {W : WX} {t : TT} {g : GT} (h : DenT F W t g) : DenT F W (tNot t) (gNot g) := by
  intro C env w σ D H Q K S p
  refine h C env w σ D H _ K S ?_
  unfold gNot at p
  cases ea : g env w with
  | bad => rw [ea] at p; exact p.elim
  | exc c fs w1 => rw [ea] at p; exact p
  | ok o w1 =>
    rw [ea] at p
    exact fun D' H' S' s' => p D' H' S' s'
theorem den_and {W : WX} {t u : TT} {g h : GT} (hg : DenT F W t g) (hh : DenT F W u h) : DenT F W (tAnd t u) (gAnd g h) := by
  intro C env w σ D H Q K S p
  refine hg C env w σ D H _ K S ?_
  unfold gAnd at p
  cases ea : g env w with
  | bad => rw [ea] at p; exact p.elim
  | exc c fs w1 => rw [ea] at p; exact p
  | ok o w1 =>
    rw [ea] at p
    intro D' H' S' s'
    cases o with
    | false => exact iteF (p D' H' S' s')
    | true =>
      refine iteT (hh C env w1 σ D' H' Q K S' ?_)
      have p' : PostT C env σ D W (h env w1) Q := p
      cases eb : h env w1 with
      | bad => rw [eb] at p'; exact p'.elim
      | exc c fs w2 => rw [eb] at p'; exact p'
      | ok b w2 =>
        rw [eb] at p'
        exact fun D2 H2 S2 s2 => p' D2 H2 S2 (s'.trans s2)
theorem den_or {W : WX} {t u : TT} {g h : GT} (hg : DenT F W t g) (hh : DenT F W u h) : DenT F W (tOr t u) (gOr g h) := by
  intro C env w σ D H Q K S p
  refine hg C env w σ D H _ K S ?_
  unfold gOr at p
  cases ea : g env w with
  | bad => rw [ea] at p; exact p.elim
  | exc c fs w1 => rw [ea] at p; exact p
  | ok o w1 =>
    rw [ea] at p
    intro D' H' S' s'
    cases o with
    | true => exact iteT (p D' H' S' s')
    | false =>
      refine iteF (hh C env w1 σ D' H' Q K S' ?_)
      have p' : PostT C env σ D W (h env w1) Q := p
      cases eb : h env w1 with
      | bad => rw [eb] at p'; exact p'.elim
      | exc c fs w2 => rw [eb] at p'; exact p'
      | ok b w2 =>
        rw [eb] at p'
        exact fun D2 H2 S2 s2 => p' D2 H2 S2 (s'.trans s2)
theorem dt_not {a : Expr} {pos : PySem.Pos} {g : GT} (h : DT F a g) : DT F (.UnaryOp .Not a pos) (gNot g) := let ⟨t, a, b⟩ := h.ex; ⟨⟨fun W => tNot (t W), fun X W O T => pt_not (a X W O T), fun W => den_not (b W)⟩⟩
theorem dw_and1 {a : Expr} {pos : PySem.Pos} {g : GT} (h : DT F a g) : DW F (.BoolOp .And [a] pos) g := let ⟨t, a, b⟩ := h.ex; ⟨⟨t, fun X W O T => pw_and1 (a X W O T), b⟩⟩
theorem dw_or1 {a : Expr} {pos : PySem.Pos} {g : GT} (h : DT F a g) : DW F (.BoolOp .Or [a] pos) g := let ⟨t, a, b⟩ := h.ex; ⟨⟨t, fun X W O T => pw_or1 (a X W O T), b⟩⟩
theorem dw_and {a b : Expr} {rest : List Expr} {pos : PySem.Pos} {g h : GT} (ha : DT F a g) (hb : DW F (.BoolOp .And (b :: rest) pos) h) : DW F (.BoolOp .And (a :: b :: rest) pos) (gAnd g h) := by
  obtain ⟨ta, a1, a2⟩ := ha.ex
  obtain ⟨tb, b1, b2⟩ := hb.ex
  exact ⟨⟨fun W => tAnd (ta W) (tb W), fun X W O T => pw_and (a1 X W O T) (b1 X W O T), fun W => den_and (a2 W) (b2 W)⟩⟩
theorem dw_or {a b : Expr} {rest : List Expr} {pos : PySem.Pos} {g h : GT} (ha : DT F a g) (hb : DW F (.BoolOp .Or (b :: rest) pos) h) : DW F (.BoolOp .Or (a :: b :: rest) pos) (gOr g h) := by
  obtain ⟨ta, a1, a2⟩ := ha.ex
  obtain ⟨tb, b1, b2⟩ := hb.ex
  exact ⟨⟨fun W => tOr (ta W) (tb W), fun X W O T => pw_or (a1 X W O T) (b1 X W O T), fun W => den_or (a2 W) (b2 W)⟩⟩
theorem dt_w {e : Expr} {g : GT} (h : DW F e g) : DT F e g := let ⟨t, a, b⟩ := h.ex; ⟨⟨t, fun X W O T => (a X W O T).pt, b⟩⟩
/-- and, or as values: all but the last are bools -/
def gAndV (g h : GE) : GE := fun env w => (g env w).bind fun a w1 => match a with
  | .bl true => h env w1
  | .bl false => .ok (.bl false) w1
  | _ => .bad
def gOrV (g h : GE) : GE := fun env w => (g env w).bind fun a w1 => match a with
  | .bl true => .ok (.bl true) w1
  | .bl false => h env w1
  | _ => .bad
def gNotV (g : GE) : GE := fun env w => (g env w).bind fun a w1 => match a with
  | .bl b => .ok (.bl (!b)) w1
  | _ => .bad
theorem postE_sub {C : Ct} {env : Env} {σ : St} {D D' : Hp} {W : WX} {o : Out Dt} {Q : VK} (s : Sub D D') (p : PostE C env σ D W o Q) : PostE C env σ D' W o Q := by
  cases o with
  | bad => exact p
  | exc c fs w2 => exact p
  | ok b w2 => exact fun v D2 H2 S2 s2 => p v D2 H2 S2 (s.trans s2)
theorem den_andV {W : WX} {t u : TE} {g h : GE} (hg : DenE F W t g) (hh : DenE F W u h) : DenE F W (tAndV t u) (gAndV g h) := by
  intro C env w σ D H Q K S p
  refine hg C env w σ D H _ K S ?_
  unfold gAndV at p
  cases ea : g env w with
  | bad => rw [ea] at p; exact p.elim
  | exc c fs w1 => rw [ea] at p; exact p
  | ok o w1 =>
    rw [ea] at p
    intro v D' H' S' s' r
    cases o with
    | bl b =>
      cases r
      cases b with
      | true => exact ⟨true, rfl, iteT (hh C env w1 σ D' H' Q K S' (postE_sub s' p))⟩
      | false => exact ⟨false, rfl, iteF (p _ D' H' S' s' (.bl false))⟩
    | _ => exact p.elim
theorem den_notV {W : WX} {t : TE} {g : GE} (hg : DenE F W t g) : DenE F W (tNotV t) (gNotV g) := by
  intro C env w σ D H Q K S p
  refine hg C env w σ D H _ K S ?_
  unfold gNotV at p
  cases ea : g env w with
  | bad => rw [ea] at p; exact p.elim
  | exc c fs w1 => rw [ea] at p; exact p
  | ok o w1 =>
    rw [ea] at p
    intro v D' H' S' s' r
    cases o with
    | bl b => cases r; exact ⟨b, rfl, p _ D' H' S' s' (.bl (!b))⟩
    | _ => exact p.elim
theorem de_one {a : Expr} {op : BoolOp} {pos : PySem.Pos} {g : GE} (h : DE F a g) : DE F (.BoolOp op [a] pos) g := let ⟨t, a, b⟩ := h.ex; ⟨⟨t, fun X W O T => pe_one (a X W O T), b⟩⟩
theorem de_and {a b : Expr} {rest : List Expr} {pos : PySem.Pos} {g h : GE} (ha : DE F a g) (hb : DE F (.BoolOp .And (b :: rest) pos) h) : DE F (.BoolOp .And (a :: b :: rest) pos) (gAndV g h) := by
  obtain ⟨ta, a1, a2⟩ := ha.ex
  obtain ⟨tb, b1, b2⟩ := hb.ex
  exact ⟨⟨fun W => tAndV (ta W) (tb W), fun X W O T => pe_and (a1 X W O T) (b1 X W O T), fun W => den_andV (a2 W) (b2 W)⟩⟩
theorem de_not {a : Expr} {pos : PySem.Pos} {g : GE} (h : DE F a g) : DE F (.UnaryOp .Not a pos) (gNotV g) := let ⟨t, a, b⟩ := h.ex; ⟨⟨fun W => tNotV (t W), fun X W O T => pe_not (a X W O T), fun W => den_notV (b W)⟩⟩
/-- a if t else b -/
def gIfE (c : GT) (g h : GE) : GE := fun env w => (c env w).bind fun b w1 => if b then g env w1 else h env w1
theorem de_if {c a b : Expr} {pos : PySem.Pos} {gc : GT} {ga gb : GE} (hc : DT F c gc) (ha : DE F a ga) (hb : DE F b gb) : DE F (.IfExp c a b pos) (gIfE gc ga gb) := by
  obtain ⟨tc, c1, c2⟩ := hc.ex
  obtain ⟨ta, a1, a2⟩ := ha.ex
  obtain ⟨tb, b1, b2⟩ := hb.ex
  refine ⟨⟨fun W => tIf (tc W) (ta W) (tb W), fun X W O T => pe_ifExp (c1 X W O T) (a1 X W O T) (b1 X W O T), fun W C env w σ D H Q K S p => ?_⟩⟩
  refine c2 W C env w σ D H _ K S ?_
  unfold gIfE at p
  cases ea : gc env w with
  | bad => rw [ea] at p; exact p.elim
  | exc c fs w1 => rw [ea] at p; exact p
  | ok o w1 =>
    rw [ea] at p
    intro D' H' S' s'
    cases o with
    | true => exact iteT (a2 W C env w1 σ D' H' Q K S' (postE_sub s' p))
    | false => exact iteF (b2 W C env w1 σ D' H' Q K S' (postE_sub s' p))
/-- tuples, lists -/
def gTup (ga : GA) : GE := gArgs (fun ds => if ds.length ≤ sizeLine then some (.tup ds) else none) ga
def gLst (ga : GA) : GF := gArgsF (fun ds => if ds.length ≤ sizeLine then some (.lst ds) else none) ga
theorem pos_tup {k : Kp} : PosN k (fun xs H1 Q => xs.length ≤ sizeLine ∧ ∀ p, H1 p = none → Q (.ref p) (upd H1 p (.tup xs))) (fun ds => if ds.length ≤ sizeLine then some (.tup ds) else none) := by
  intro D H xs as z u r e Q q
  simp only at e
  split at e
  · cases e
    refine ⟨by rw [r.length]; assumption, fun p hp => q _ _ _ (Ex.new u hp) (.tup upd_same (r.mono (Ex.new (o := .tup xs) u hp).sub))⟩
  · cases e
theorem new_lst {k : Kp} : NewN k (fun xs H1 Q => xs.length ≤ sizeLine ∧ ∀ p, H1 p = none → Q (.ref p) (upd H1 p (.lst xs))) (fun ds => if ds.length ≤ sizeLine then some (.lst ds) else none) := by
  intro D H xs as z u r e Q q
  simp only at e
  split at e
  · cases e
    exact ⟨by rw [r.length]; assumption, fun p hp => q _ D _ [p] (Ex.hid u hp) (fun C e => ⟨rfl, xs, upd_same, by rw [e]; exact r⟩) (by simp) fun b hb => by rw [List.mem_singleton.mp hb]; exact ⟨hp, none_of u hp⟩⟩
  · cases e
theorem de_tup {es : List Expr} {x1 : Nat} {pos : PySem.Pos} {ga : GA} (h : DL F es ga) : DE F (.Tuple es x1 pos) (gTup ga) := let ⟨t, a, b⟩ := h.ex; ⟨⟨fun W => tTup (t W), fun X W O T => pe_tup (a X W O T), fun W => den_args (b W) fun _ _ _ => pos_tup⟩⟩
theorem df_lst {es : List Expr} {pos : PySem.Pos} {ga : GA} (h : DL F es ga) : DF F (.List es pos) (gLst ga) := let ⟨t, a, b⟩ := h.ex; ⟨⟨fun W => tLst (t W), fun X W O T => pe_lst (a X W O T), fun W => den_argsF (b W) fun _ _ _ => new_lst⟩⟩
end
end Dn
end
section
/-! Statements, loops, comprehensions, defs. -/
namespace Dn
open PySem L2
/-! ### storing -/
theorem Sta.set {C : Ct} {env : Env} {w : Ds} {σ : St} {D H : Hp} {fx : List Addr} {i : Nat} {s : Sl} {x : Option V} (S : Sta C env w σ D H fx) (h : SlotOk C D H s x fx) (hi : i < env.length) : Sta C (env.set i s) w (σ.set i x) D H [] := by
  obtain ⟨fp, h1, h2, h3⟩ := S.sl
  obtain ⟨fp', g1, g2, g3⟩ := h1.set h hi h2
  exact ⟨S.up, S.d0, S.kp, S.nw, S.wd, fp', g1, g2, fun q hq => h3 q (g3 q hq)⟩
theorem Sta.setD {C : Ct} {env : Env} {w : Ds} {σ : St} {D H : Hp} {i : Nat} {v : V} {d : Dt} (S : Sta C env w σ D H []) (h : Rp C.k D v d) (hi : i < env.length) : Sta C (env.set i (.dat d)) w (σ.set i (some v)) D H [] :=
  S.set (s := .dat d) ⟨rfl, v, rfl, h⟩ hi
theorem wipe_set {i : Nat} {x : Option V} : ∀ {vs : List Nat} {σ : St}, i ∈ vs → wipe (σ.set i x) vs = wipe σ vs
  | [], _, h => by cases h
  | v :: vs, σ, h => by
    have key : ∀ (us : List Nat) (τ : St), wipe (τ.set i x) us = if i ∈ us then wipe τ us else (wipe τ us).set i x := by
      intro us
      induction us with
      | nil => intro τ; rfl
      | cons u us ih =>
        intro τ
        show (wipe (τ.set i x) us).set u none = if i ∈ u :: us then (wipe τ us).set u none else ((wipe τ us).set u none).set i x
        rw [ih τ]
        by_cases h1 : i ∈ us
        · rw [if_pos h1, if_pos (List.mem_cons_of_mem _ h1)]
        · rw [if_neg h1]
          by_cases h2 : i = u
          · subst h2
            rw [if_pos List.mem_cons_self, List.set_set]
          · rw [if_neg (by simp [h1, h2])]
            exact List.set_comm _ _ h2
    rw [key, if_pos h]
/-! ### targets -/
abbrev Bd := Dt → Env → Option Env
def DenG (F : Fc) (g : TG) (b : Bd) (ix : List Nat) : Prop := ∀ C env w σ D H v d env' (Q : St → Hp → Prop), Kin F C → Sta C env w σ D H [] → Rp C.k D v d → b d env = some env' →
  (∀ σ', Sta C env' w σ' D H [] → (∀ vs : List Nat, (∀ i ∈ ix, i ∈ vs) → wipe σ' vs = wipe σ vs) → Q σ' H) → g v σ H Q
structure DG (F : Fc) (tg : Expr) (b : Bd) (ix : List Nat) : Prop where
  ex : ∃ g : TG, (∀ X, On F X → PG X tg g) ∧ DenG F g b ix
def bName (i : Nat) : Bd := fun d env => if i < env.length then some (env.set i (.dat d)) else none
theorem dg_name {F : Fc} {x : Str} {pos : PySem.Pos} (i : Nat) (hN : F.N.Nodup) (hi : F.N[i]? = some x) (hx : Loc F.sc x) (hf : F.top = true ∨ F.sc.names.lookup x = some .local) : DG F (.Name x pos) (bName i) [i] := by
  refine ⟨⟨gName i, fun X O => ?_, fun C env w σ D H v d env' Q K S r e q => ?_⟩⟩
  · refine pg_name (by rw [O.N]; exact hN) (by rw [O.N]; exact hi) (by rw [O.sc]; exact hx) ?_
    rcases hf with z | z
    · exact .inl (O.fn z x)
    · exact .inr (by rw [O.sc]; exact z)
  · unfold bName at e
    split at e
    · rename_i hl
      cases e
      exact q _ (S.setD r hl) fun vs hv => wipe_set (hv i (by simp))
    · cases e
theorem dg_nameC {F : Fc} {x : Str} {pos : PySem.Pos} (i : Nat) (hN : F.N.Nodup) (hi : F.N[i]? = some x) (hx : Loc F.sc x) (hf : F.bc x = true) : DG F (.Name x pos) (bName i) [i] := by
  refine ⟨⟨gName i, fun X O => ?_, fun C env w σ D H v d env' Q K S r e q => ?_⟩⟩
  · exact pg_name (by rw [O.N]; exact hN) (by rw [O.N]; exact hi) (by rw [O.sc]; exact hx) (.inl (O.fnb x hf))
  · unfold bName at e
    split at e
    · rename_i hl
      cases e
      exact q _ (S.setD r hl) fun vs hv => wipe_set (hv i (by simp))
    · cases e
def DenGs (F : Fc) (g : TGs) (b : List Dt → Env → Option Env) (ix : List Nat) : Prop := ∀ C env w σ D H vs ds env' (Q : St → Hp → Prop), Kin F C → Sta C env w σ D H [] → RpL C.k D vs ds → b ds env = some env' →
  (∀ σ', Sta C env' w σ' D H [] → (∀ vs : List Nat, (∀ i ∈ ix, i ∈ vs) → wipe σ' vs = wipe σ vs) → Q σ' H) → g vs σ H Q
structure DGs (F : Fc) (tgs : List Expr) (n : Nat) (b : List Dt → Env → Option Env) (ix : List Nat) : Prop where
  ex : ∃ g : TGs, (∀ X, On F X → PGs X tgs g) ∧ DenGs F g b ix
  ln : ∀ ds env env', b ds env = some env' → ds.length = n
  n : tgs.length = n
def bNil : List Dt → Env → Option Env := fun ds env => match ds with
  | [] => some env
  | _ => none
def bCons (b : Bd) (bs : List Dt → Env → Option Env) : List Dt → Env → Option Env := fun ds env => match ds with
  | d :: r => (b d env).bind (bs r)
  | [] => none
def bTup (bs : List Dt → Env → Option Env) : Bd := fun d env => match d with
  | .tup ds => bs ds env
  | _ => none
theorem dgs_nil {F : Fc} : DGs F [] 0 bNil [] := by
  refine ⟨⟨L2.gNil, fun X _ => pgs_nil, fun C env w σ D H vs ds env' Q K S r e q => ?_⟩, fun ds env env' e => ?_, rfl⟩
  · cases r with
    | nil => cases e; exact ⟨rfl, q σ S fun _ _ => rfl⟩
    | cons h r => cases e
  · cases ds with
    | nil => rfl
    | cons a r => cases e
theorem dgs_cons {F : Fc} {e : Expr} {es : List Expr} {n : Nat} {b : Bd} {bs : List Dt → Env → Option Env} {ix iy : List Nat} (h : DG F e b ix) (hs : DGs F es n bs iy) (h1 : ∀ env, (assignEach (e :: es) env).map (·.2) = assign e env :: (assignEach es env).map (·.2) := by intro _; rfl) : DGs F (e :: es) (n + 1) (bCons b bs) (ix ++ iy) := by
  obtain ⟨g, g1, g2⟩ := h.ex
  obtain ⟨gs, s1, s2⟩ := hs.ex
  refine ⟨⟨L2.gCons g gs, fun X O => pgs_cons (g1 X O) (s1 X O) (h1 _), fun C env w σ D H vs ds env' Q K S r e q => ?_⟩, fun ds env env' e => ?_, by simp [hs.n]⟩
  · cases r with
    | nil => cases e
    | cons h r =>
      rename_i v vs d ds
      have e' : (b d env).bind (bs ds) = some env' := e
      cases eb : b d env with
      | none => rw [eb] at e'; cases e'
      | some env1 =>
        rw [eb] at e'
        refine ⟨v, vs, rfl, g2 C env w σ D H v d env1 _ K S h eb fun σ1 S1 w1 => ?_⟩
        refine s2 C env1 w σ1 D H vs ds env' Q K S1 r e' fun σ2 S2 w2 => q σ2 S2 fun us hu => ?_
        rw [w2 us fun i hi => hu i (List.mem_append_right _ hi), w1 us fun i hi => hu i (List.mem_append_left _ hi)]
  · cases ds with
    | nil => cases e
    | cons a r =>
      have e' : (b a env).bind (bs r) = some env' := e
      cases eb : b a env with
      | none => rw [eb] at e'; cases e'
      | some env1 =>
        rw [eb] at e'
        simp [hs.ln r env1 env' e']
theorem dg_tup {F : Fc} {es : List Expr} {k n : Nat} {pos : PySem.Pos} {bs : List Dt → Env → Option Env} {ix : List Nat} (hc : F.calm = true) (h : DGs F es n bs ix)
    (hn : ∀ env, (assignEach es env).length = n := by intro _; rfl) (hst : ∀ env, (assignEach es env).findIdx? (·.1) = none := by intro _; rfl) : DG F (.Tuple es k pos) (bTup bs) ix := by
  obtain ⟨gs, s1, s2⟩ := h.ex
  refine ⟨⟨L2.gTup F.K n gs, fun X O => ?_, fun C env w σ D H v d env' Q K S r e q => ?_⟩⟩
  · rw [← O.K]; exact pg_tup (O.calm hc) (s1 X O) (hn _) (hst _)
  · cases r with
    | tup hT r =>
      skip
      exact ⟨_, _, rfl, tupS S.up hT, by rw [r.length]; exact h.ln _ _ _ e, s2 C env w σ D H _ _ env' Q K S r e q⟩
    | _ => cases e
/-! ### statements -/
def sSet (i : Nat) (g : GE) : GS := fun env w => match g env w with
  | .ok d w1 => if i < env.length then .nx (env.set i (.dat d)) w1 else .bad
  | .exc c fs w1 => .exc c fs env w1
  | .bad => .bad
def sSetF (i : Nat) (g : GF) : GS := fun env w => match g env w with
  | .ok o w1 => if i < env.length then .nx (env.set i (.own o)) w1 else .bad
  | .exc c fs w1 => .exc c fs env w1
  | .bad => .bad
def sAsg (b : Bd) (g : GE) : GS := fun env w => match g env w with
  | .ok d w1 => match b d env with
    | some env' => .nx env' w1
    | none => .bad
  | .exc c fs w1 => .exc c fs env w1
  | .bad => .bad
def sDrop (g : GE) : GS := fun env w => match g env w with
  | .ok _ w1 => .nx env w1
  | .exc c fs w1 => .exc c fs env w1
  | .bad => .bad
def sRet (g : GE) : GS := fun env w => match g env w with
  | .ok d w1 => .ret d w1
  | .exc c fs w1 => .exc c fs env w1
  | .bad => .bad
def sRetF (g : GF) : GS := fun env w => match g env w with
  | .ok o w1 => .rtf o w1
  | .exc c fs w1 => .exc c fs env w1
  | .bad => .bad
def sSkip : GS := fun env w => .nx env w
def sIf (c : GT) (a b : GS) : GS := fun env w => match c env w with
  | .ok true w1 => a env w1
  | .ok false w1 => b env w1
  | .exc c fs w1 => .exc c fs env w1
  | .bad => .bad
def sSeq (a b : GS) : GS := fun env w => match a env w with
  | .nx e1 w1 => b e1 w1
  | o => o
section
variable {F : Fc}
theorem ds_set {x : Str} {e : Expr} {p' pos : PySem.Pos} {g : GE} (i : Nat) (hN : F.N.Nodup) (hi : F.N[i]? = some x) (hx : Loc F.sc x) (hf : F.top = true ∨ F.sc.names.lookup x = some .local) (h : DE F e g)
    (hs : ∀ env, swapsWith e (some (.Name x p')) pos.line env = pure false := by intro _; rfl) : DS F (.Assign [.Name x p'] e pos) (sSet i g) := by
  obtain ⟨t, a, b⟩ := h.ex
  refine ⟨⟨fun W => tAsg (t W) (gName i), fun X W O T => ?_, fun W C env w σ D H Dn K S p => ?_⟩⟩
  · refine ps_set (by rw [O.N]; exact hN) (by rw [O.N]; exact hi) (by rw [O.sc]; exact hx) (a X W O T) (hs _) ?_
    rcases hf with z | z
    · exact .inl (O.fn z x)
    · exact .inr (by rw [O.sc]; exact z)
  · refine b W C env w σ D H _ K S ?_
    unfold sSet at p
    cases e : g env w with
    | bad => rw [e] at p; exact p
    | exc c fs w1 => rw [e] at p; exact p σ
    | ok d w1 =>
      rw [e] at p
      intro v D' H' S' s' r
      simp only at p
      split at p
      · rename_i hl
        exact p _ D' H' (S'.setD r hl)
      · exact p.elim
theorem ds_setF {x : Str} {e : Expr} {p' pos : PySem.Pos} {g : GF} (i : Nat) (hN : F.N.Nodup) (hi : F.N[i]? = some x) (hx : Loc F.sc x) (hf : F.top = true ∨ F.sc.names.lookup x = some .local) (h : DF F e g)
    (hs : ∀ env, swapsWith e (some (.Name x p')) pos.line env = pure false := by intro _; rfl) : DS F (.Assign [.Name x p'] e pos) (sSetF i g) := by
  obtain ⟨t, a, b⟩ := h.ex
  refine ⟨⟨fun W => tAsg (t W) (gName i), fun X W O T => ?_, fun W C env w σ D H Dn K S p => ?_⟩⟩
  · refine ps_set (by rw [O.N]; exact hN) (by rw [O.N]; exact hi) (by rw [O.sc]; exact hx) (a X W O T) (hs _) ?_
    rcases hf with z | z
    · exact .inl (O.fn z x)
    · exact .inr (by rw [O.sc]; exact z)
  · refine b W C env w σ D H _ K S ?_
    unfold sSetF at p
    cases e : g env w with
    | bad => rw [e] at p; exact p
    | exc c fs w1 => rw [e] at p; exact p σ
    | ok d w1 =>
      rw [e] at p
      intro q fp D' H' S' s' r
      simp only at p
      split at p
      · rename_i hl
        exact p _ D' H' (S'.set (s := .own d) ⟨q, rfl, r⟩ hl)
      · exact p.elim
theorem ds_asg {tg e : Expr} {pos : PySem.Pos} {g : GE} {b : Bd} {ix : List Nat} (h : DE F e g) (hg : DG F tg b ix) (hs : ∀ env, swapsWithSole [tg] e pos.line env = pure false := by intro _; rfl) (hw : ∀ env, swappedStores [tg] e env = pure none := by intro _; rfl) (h1 : ∀ env, (assignEach [tg] env).map (·.2) = [assign tg env] := by intro _; rfl) :
    DS F (.Assign [tg] e pos) (sAsg b g) := by
  obtain ⟨t, a1, a2⟩ := h.ex
  obtain ⟨tg', g1, g2⟩ := hg.ex
  refine ⟨⟨fun W => tAsg (t W) tg', fun X W O T => ps_asg (a1 X W O T) (g1 X O) (hs _) (hw _) (h1 _), fun W C env w σ D H Dn K S p => ?_⟩⟩
  refine a2 W C env w σ D H _ K S ?_
  unfold sAsg at p
  cases e : g env w with
  | bad => rw [e] at p; exact p
  | exc c fs w1 => rw [e] at p; exact p σ
  | ok d w1 =>
    rw [e] at p
    simp only at p
    intro v D' H' S' s' r
    cases eb : b d env with
    | none => rw [eb] at p; exact p.elim
    | some env' =>
      rw [eb] at p
      exact g2 C env w1 σ D' H' v d env' _ K S' r eb fun σ' S2 _ => p σ' D' H' S2
theorem ds_drop {e : Expr} {pos : PySem.Pos} {g : GE} (h : DE F e g) (hs : ∀ env, swapsWith e none pos.line env = pure false := by intro _; rfl) : DS F (.Expr e pos) (sDrop g) := by
  obtain ⟨t, a1, a2⟩ := h.ex
  refine ⟨⟨fun W => tDrop (t W), fun X W O T => ps_expr (a1 X W O T) (hs _), fun W C env w σ D H Dn K S p => ?_⟩⟩
  refine a2 W C env w σ D H _ K S ?_
  unfold sDrop at p
  cases e : g env w with
  | bad => rw [e] at p; exact p
  | exc c fs w1 => rw [e] at p; exact p σ
  | ok d w1 =>
    rw [e] at p
    exact fun v D' H' S' s' r => p σ D' H' S'
theorem ds_ret {e : Expr} {pos : PySem.Pos} {g : GE} (h : DE F e g) : DS F (.Return (some e) pos) (sRet g) := by
  obtain ⟨t, a1, a2⟩ := h.ex
  refine ⟨⟨fun W => tRet (t W), fun X W O T => ps_ret (a1 X W O T), fun W C env w σ D H Dn K S p => ?_⟩⟩
  refine a2 W C env w σ D H _ K S ?_
  unfold sRet at p
  cases e : g env w with
  | bad => rw [e] at p; exact p
  | exc c fs w1 => rw [e] at p; exact p σ
  | ok d w1 =>
    rw [e] at p
    exact fun v D' H' S' s' r => p env σ v D' H' S' r
theorem ds_retF {e : Expr} {pos : PySem.Pos} {g : GF} (h : DF F e g) : DS F (.Return (some e) pos) (sRetF g) := by
  obtain ⟨t, a1, a2⟩ := h.ex
  refine ⟨⟨fun W => tRet (t W), fun X W O T => ps_ret (a1 X W O T), fun W C env w σ D H Dn K S p => ?_⟩⟩
  refine a2 W C env w σ D H _ K S ?_
  unfold sRetF at p
  cases e : g env w with
  | bad => rw [e] at p; exact p
  | exc c fs w1 => rw [e] at p; exact p σ
  | ok d w1 =>
    rw [e] at p
    exact fun q fp D' H' S' s' r => p env σ q fp D' H' S' r
theorem db_nil : DB F [] sSkip := ⟨⟨fun _ => tNext, fun X W O T => pss_nil, fun W C env w σ D H Dn K S p => p σ D H S⟩⟩
theorem db_one {st : Stmt} {g : GS} (h : DS F st g) : DB F [st] g := let ⟨t, a, b⟩ := h.ex; ⟨⟨t, fun X W O T => pss_one (a X W O T), b⟩⟩
theorem db_cons {st : Stmt} {rest : List Stmt} {g gr : GS} (h : DS F st g) (hr : DB F rest gr) : DB F (st :: rest) (sSeq g gr) := by
  obtain ⟨t, a1, a2⟩ := h.ex
  obtain ⟨u, r1, r2⟩ := hr.ex
  refine ⟨⟨fun W => tSeq (t W) (u W), fun X W O T => pss_cons (a1 X W O T) (r1 X W O T), fun W C env w σ D H Dn K S p => ?_⟩⟩
  refine a2 W C env w σ D H _ K S ?_
  unfold sSeq at p
  cases e : g env w with
  | nx e1 w1 =>
    rw [e] at p
    exact fun σ' D' H' S' => r2 W C e1 w1 σ' D' H' Dn K S' p
  | bk e1 w1 => rw [e] at p; exact p
  | ct e1 w1 => rw [e] at p; exact p
  | ret d w1 => rw [e] at p; exact p
  | rtf d w1 => rw [e] at p; exact p
  | exc c fs e1 w1 => rw [e] at p; exact p
  | bad => rw [e] at p; exact p
theorem ds_if {c : Expr} {a b : List Stmt} {pos : PySem.Pos} {gc : GT} {ga gb : GS} (hc : DT F c gc) (ha : DB F a ga) (hb : DB F b gb) : DS F (.If c a b pos) (sIf gc ga gb) := by
  obtain ⟨tc, c1, c2⟩ := hc.ex
  obtain ⟨ta, a1, a2⟩ := ha.ex
  obtain ⟨tb, b1, b2⟩ := hb.ex
  refine ⟨⟨fun W => tIfS (tc W) (ta W) (tb W), fun X W O T => ps_if (c1 X W O T) (a1 X W O T) (b1 X W O T), fun W C env w σ D H Dn K S p => ?_⟩⟩
  refine c2 W C env w σ D H _ K S ?_
  unfold sIf at p
  cases e : gc env w with
  | bad => rw [e] at p; exact p
  | exc c fs w1 => rw [e] at p; exact p σ
  | ok d w1 =>
    rw [e] at p
    intro D' H' S' s'
    cases d with
    | true => exact iteT (a2 W C env w1 σ D' H' Dn K S' p)
    | false => exact iteF (b2 W C env w1 σ D' H' Dn K S' p)
end
/-! ### walking -/
/-- what comes at turn i: the i-th datum, the heap grown by it at most -/
def Yd (k : Kp) (D : Hp) (items : List Dt) : Nat → Hp → V → Hp → Prop := fun i H x H' => ∃ d, items[i]? = some d ∧ ∀ D1, Sub D D1 → Sub D1 H → ∃ D2, Ex D1 H D2 H' ∧ Rp k D2 x d
def PostI (C : Ct) (env : Env) (σ : St) (D : Hp) (W : WX) (o : Out (List Dt)) (R : It → Hp → Prop) : Prop := match o with
  | .ok items w => ∀ J D' H', Sta C env w σ D' H' [] → Sub D D' → Walk J items.length (fun H => Sub D' H) (Yd C.k D' items) → R J H'
  | .exc c fs w => PostX C env σ W c fs w
  | .bad => False
def DenI (F : Fc) (W : WX) (t : TI) (g : GA) : Prop := ∀ C env w σ D H R, Kin F C → Sta C env w σ D H [] → PostI C env σ D W (g env w) R → t σ H R
structure DI (F : Fc) (tg e : Expr) (g : GA) : Prop where
  ex : ∃ t : WX → TI, (∀ X W, On F X → Tk X W → PI X tg e (t W)) ∧ ∀ W, DenI F W (t W) g
def forG (b : Bd) (body : GS) : List Dt → GS
  | [], env, w => .nx env w
  | x :: xs, env, w => match b x env with
    | none => .bad
    | some e1 => match body e1 w with
      | .nx e2 w2 => forG b body xs e2 w2
      | .ct e2 w2 => forG b body xs e2 w2
      | .bk e2 w2 => .nx e2 w2
      | .ret d w2 => .ret d w2
      | .rtf o w2 => .rtf o w2
      | .exc c fs e2 w2 => .exc c fs e2 w2
      | .bad => .bad
def sFor (gi : GA) (b : Bd) (body : GS) : GS := fun env w => match gi env w with
  | .ok items w1 => forG b body items env w1
  | .exc c fs w1 => .exc c fs env w1
  | .bad => .bad
theorem OwnAt.ct {C C' : Ct} {D H : Hp} {p : Addr} (hk : C.k = C'.k) : ∀ {o : Ow} {fp : List Addr}, OwnAt C D H p o fp → OwnAt C' D H p o fp
  | .lst _, _, ⟨e, vs, h, r⟩ => ⟨e, vs, h, hk ▸ r⟩
  | .dK _, _, ⟨e, vs, h, q, r⟩ => ⟨e, vs, h, q, hk ▸ r⟩
  | .dT _, _, ⟨e, vs, h, q, r⟩ => ⟨e, vs, h, q, hk ▸ r⟩
  | .ins _ _, _, h => by unfold OwnAt at h ⊢; rw [← hk]; exact h
  | .slf _ _, _, h => by unfold OwnAt at h ⊢; rw [← hk]; exact h
  | .ll _, _, ⟨ps, e, h, t⟩ => ⟨ps, e, h, hk ▸ t⟩
  | .dL _, _, ⟨ps, ks, e, h, h1, h2, t⟩ => ⟨ps, ks, e, h, h1, h2, hk ▸ t⟩
theorem SlotsOk.ct {C C' : Ct} {D H : Hp} (hk : C.k = C'.k) : ∀ {ss : List Sl} {σ : St} {fp : List Addr}, SlotsOk C D H ss σ fp → SlotsOk C' D H ss σ fp
  | [], [], _, h => h
  | .un :: ss, x :: xs, fp, ⟨f1, f2, e, h, r⟩ => ⟨f1, f2, e, h, r.ct hk⟩
  | .dat d :: ss, x :: xs, fp, ⟨f1, f2, e, ⟨h, v, h', r'⟩, r⟩ => ⟨f1, f2, e, ⟨h, v, h', hk ▸ r'⟩, r.ct hk⟩
  | .own o :: ss, x :: xs, fp, ⟨f1, f2, e, ⟨p, h, r'⟩, r⟩ => ⟨f1, f2, e, ⟨p, h, r'.ct hk⟩, r.ct hk⟩
  | [], _ :: _, _, h => h.elim
  | _ :: _, [], _, h => h.elim
/-- from here on, what is data now stays so -/
theorem Sta.here {C : Ct} {env : Env} {w : Ds} {σ : St} {D H : Hp} {fx : List Addr} (S : Sta C env w σ D H fx) : Sta ⟨C.k, C.H0, D⟩ env w σ D H fx := by
  obtain ⟨fp, h1, h2, h3⟩ := S.sl
  refine ⟨S.up, Sub.refl _, S.kp, fun a e n => absurd e n, S.wd, fp, ?_, h2, h3⟩
  · exact SlotsOk.ct (C := C) (C' := ⟨C.k, C.H0, D⟩) rfl h1
/-- back from a later point's data -/
theorem Sta.back {C : Ct} {env0 : Env} {w0 : Ds} {σ0 : St} {D0 H0 : Hp} {fx0 : List Addr} (S0 : Sta C env0 w0 σ0 D0 H0 fx0) {env : Env} {w : Ds} {σ : St} {D H : Hp} {fx : List Addr} (S : Sta ⟨C.k, C.H0, D0⟩ env w σ D H fx) : Sta C env w σ D H fx := by
  obtain ⟨fp, h1, h2, h3⟩ := S.sl
  refine ⟨S.up, S0.d0.trans S.d0, S.kp, fun a e n => ?_, S.wd, fp, SlotsOk.ct (C := ⟨C.k, C.H0, D0⟩) (C' := C) rfl h1, h2, h3⟩
  cases z : D0 a with
  | none => exact S.nw a z n
  | some u => exact S0.nw a e (by rw [z]; simp)
end Dn
end
section
/-! Loops, comprehensions, defs and their calls. -/
namespace Dn
open PySem L2
section
variable {F : Fc}
theorem postS_back {C : Ct} {env0 : Env} {w0 : Ds} {σ0 : St} {D0 H0 : Hp} {fx0 : List Addr} (S0 : Sta C env0 w0 σ0 D0 H0 fx0) {W : WX} {o : OutS} {Dn : Ends} (h : PostS C W o Dn) : PostS ⟨C.k, C.H0, D0⟩ W o Dn := by
  cases o with
  | nx e w => exact fun σ D H S => h σ D H (S0.back S)
  | bk e w => exact fun σ D H S => h σ D H (S0.back S)
  | ct e w => exact fun σ D H S => h σ D H (S0.back S)
  | ret d w => exact fun e σ v D H S r => h e σ v D H (S0.back S) r
  | rtf o w => exact fun e σ p fp D H S r => h e σ p fp D H (S0.back S) (r.ct rfl)
  | exc c fs e w => exact fun σ Ca d D' H' S x => h σ Ca d D' H' (S0.back S) x
  | bad => exact h
theorem kin_here {C : Ct} (K : Kin F C) (H0 D0 : Hp) : Kin F ⟨C.k, H0, D0⟩ := ⟨K.K, K.cls, K.tb, K.xa⟩
theorem den_for {W : WX} {wi : TI} {g : TG} {tb : TS} {gi : GA} {b : Bd} {ix : List Nat} {body : GS} (hi : DenI F W wi gi) (hg : DenG F g b ix) (hb : DenS F W tb body) : DenS F W (tFor wi g tb) (sFor gi b body) := by
  intro C env w σ D H Dn K S p
  refine hi C env w σ D H _ K S ?_
  unfold sFor at p
  cases e : gi env w with
  | bad => rw [e] at p; exact p
  | exc c fs w1 => rw [e] at p; exact p σ
  | ok items w1 =>
    rw [e] at p
    intro J D1 H1 S1 s1 wk
    have p1 : PostS ⟨C.k, C.H0, D1⟩ W (forG b body items env w1) Dn := postS_back S1 p
    have S1' := S1.here
    refine for_it wk (fun i σ H => ∃ env w D, Sta ⟨C.k, C.H0, D1⟩ env w σ D H [] ∧ PostS ⟨C.k, C.H0, D1⟩ W (forG b body (items.drop i) env w) Dn) ⟨env, w1, D1, S1', by simpa using p1⟩ ?_ ?_ ?_
    · rintro i σ' H' _ ⟨env', w', D', S', _⟩
      exact S'.d0.trans S'.up
    · rintro i x σ' H' H'' hi ⟨env', w', D', S', p'⟩ y
      obtain ⟨d, hd, hy⟩ := y
      obtain ⟨D2, ex, r⟩ := hy D' S'.d0 S'.up
      have S2 := S'.ex ex
      have hdr : items.drop i = d :: items.drop (i + 1) := by
        obtain ⟨hl, e⟩ := List.getElem?_eq_some_iff.mp hd
        rw [List.drop_eq_getElem_cons hl, e]
      rw [hdr] at p'
      unfold forG at p'
      cases eb : b d env' with
      | none => rw [eb] at p'; exact p'.elim
      | some env2 =>
        rw [eb] at p'
        simp only at p'
        refine hg ⟨C.k, C.H0, D1⟩ env' w' σ' D2 H'' x d env2 _ (kin_here K _ _) S2 r eb fun σ3 S3 _ => ?_
        refine hb ⟨C.k, C.H0, D1⟩ env2 w' σ3 D2 H'' _ (kin_here K _ _) S3 ?_
        cases eo : body env2 w' with
        | nx e2 w2 => rw [eo] at p'; exact fun σ4 D4 H4 S4 => ⟨e2, w2, D4, S4, p'⟩
        | ct e2 w2 => rw [eo] at p'; exact fun σ4 D4 H4 S4 => ⟨e2, w2, D4, S4, p'⟩
        | bk e2 w2 => rw [eo] at p'; exact fun σ4 D4 H4 S4 => p' σ4 D4 H4 S4
        | ret d w2 => rw [eo] at p'; exact p'
        | rtf o w2 => rw [eo] at p'; exact p'
        | exc c fs e2 w2 => rw [eo] at p'; exact p'
        | bad => rw [eo] at p'; exact p'.elim
    · rintro σ' H' ⟨env', w', D', S', p'⟩
      rw [List.drop_length] at p'
      exact p' σ' D' H' S'
theorem ds_for {tg iter : Expr} {body : List Stmt} {pos : PySem.Pos} {gi : GA} {b : Bd} {ix : List Nat} {gb : GS} (hc : F.calm = true) (hi : DI F tg iter gi) (hg : DG F tg b ix) (hb : DB F body gb)
    (hs : ∀ env x, foldedSetIterable iter env x = pure x := by intro _ _; rfl) : DS F (.For tg iter body [] pos) (sFor gi b gb) := by
  obtain ⟨ti, i1, i2⟩ := hi.ex
  obtain ⟨g, g1, g2⟩ := hg.ex
  obtain ⟨tb, b1, b2⟩ := hb.ex
  exact ⟨⟨fun W => tFor (ti W) g (tb W), fun X W O T => ps_for T.ps (O.calm hc) (i1 X W O T) (g1 X O) (b1 X W O T) (hs _), fun W => den_for (i2 W) g2 (b2 W)⟩⟩
/-! ### while -/
def whileG (c : GT) (body : GS) : Nat → GS
  | 0, _, _ => .bad
  | n + 1, env, w => match c env w with
    | .ok true w1 => match body env w1 with
      | .nx e2 w2 => whileG c body n e2 w2
      | .ct e2 w2 => whileG c body n e2 w2
      | .bk e2 w2 => .nx e2 w2
      | .ret d w2 => .ret d w2
      | .rtf o w2 => .rtf o w2
      | .exc c fs e2 w2 => .exc c fs e2 w2
      | .bad => .bad
    | .ok false w1 => .nx env w1
    | .exc c fs w1 => .exc c fs env w1
    | .bad => .bad
def turnsMost : Nat := 100000
def sWhile (c : GT) (body : GS) : GS := fun env w => whileG c body turnsMost env w
theorem den_while {W : WX} {tc : TT} {tb : TS} {c : GT} {body : GS} (hc : DenT F W tc c) (hb : DenS F W tb body) : DenS F W (tWhile tc tb) (sWhile c body) := by
  intro C env w σ D H Dn K S p
  refine ⟨fun m σ H => ∃ env w D, Sta C env w σ D H [] ∧ PostS C W (whileG c body m env w) Dn, ⟨turnsMost, env, w, D, S, p⟩, ?_⟩
  rintro m σ' H' ⟨env', w', D', S', p'⟩
  cases m with
  | zero => exact p'.elim
  | succ n =>
    unfold whileG at p'
    refine hc C env' w' σ' D' H' _ K S' ?_
    cases e : c env' w' with
    | bad => rw [e] at p'; exact p'
    | exc c fs w1 => rw [e] at p'; exact p' σ'
    | ok t w1 =>
      rw [e] at p'
      intro D1 H1 S1 s1
      cases t with
      | false => exact iteF (p' σ' D1 H1 S1)
      | true =>
        refine iteT ⟨fun σ H => ∃ env w D, Sta C env w σ D H [] ∧ PostS C W (whileG c body n env w) Dn, fun σ2 H2 q => ⟨n, Nat.lt_succ_self n, q⟩, ?_⟩
        refine hb C env' w1 σ' D1 H1 _ K S1 ?_
        simp only at p'
        cases eo : body env' w1 with
        | nx e2 w2 => rw [eo] at p'; exact fun σ4 D4 H4 S4 => ⟨e2, w2, D4, S4, p'⟩
        | ct e2 w2 => rw [eo] at p'; exact fun σ4 D4 H4 S4 => ⟨e2, w2, D4, S4, p'⟩
        | bk e2 w2 => rw [eo] at p'; exact fun σ4 D4 H4 S4 => p' σ4 D4 H4 S4
        | ret d w2 => rw [eo] at p'; exact p'
        | rtf o w2 => rw [eo] at p'; exact p'
        | exc c fs e2 w2 => rw [eo] at p'; exact p'
        | bad => rw [eo] at p'; exact p'.elim
theorem ds_while {c : Expr} {body : List Stmt} {pos : PySem.Pos} {gc : GT} {gb : GS} (hc : DT F c gc) (hb : DB F body gb) : DS F (.While c body [] pos) (sWhile gc gb) := by
  obtain ⟨tc, c1, c2⟩ := hc.ex
  obtain ⟨tb, b1, b2⟩ := hb.ex
  exact ⟨⟨fun W => tWhile (tc W) (tb W), fun X W O T => ps_while T.ps (c1 X W O T) (b1 X W O T), fun W => den_while (c2 W) (b2 W)⟩⟩
/-! ### comprehensions -/
/-- what a comprehension's block sees: no owned things, its own names forgotten -/
def hideO : Env → Env
  | [] => []
  | .own _ :: r => .un :: hideO r
  | s :: r => s :: hideO r
def wipeE (env : Env) : List Nat → Env
  | [] => env
  | v :: vs => (wipeE env vs).set v .un
def hide (vs : List Nat) (env : Env) : Env := wipeE (hideO env) vs
def lcG (b : Bd) (gt : GT) (ge : GE) (he : Env) : List Dt → List Dt → Ds → Out (List Dt)
  | [], acc, w => .ok acc w
  | x :: xs, acc, w => match b x he with
    | none => .bad
    | some e1 => match gt e1 w with
      | .ok true w1 => match ge e1 w1 with
        | .ok d w2 => if acc.length < sizeLine then lcG b gt ge he xs (acc ++ [d]) w2 else .bad
        | _ => .bad
      | .ok false w1 => lcG b gt ge he xs acc w1
      | _ => .bad
def gLc (vs : List Nat) (gi : GA) (b : Bd) (gt : GT) (ge : GE) : GF := fun env w => (gi env w).bind fun items w1 => match lcG b gt ge (hide vs env) items [] w1 with
  | .ok acc w2 => .ok (.lst acc) w2
  | _ => .bad
theorem slots_hideO {C : Ct} {D H : Hp} : ∀ {ss : Env} {σ : St} {fp : List Addr}, SlotsOk C D H ss σ fp → SlotsOk C D H (hideO ss) σ []
  | [], [], _, h => rfl
  | .un :: ss, x :: xs, fp, ⟨f1, f2, e, h, r⟩ => ⟨[], [], rfl, rfl, slots_hideO r⟩
  | .dat d :: ss, x :: xs, fp, ⟨f1, f2, e, h, r⟩ => ⟨[], [], rfl, ⟨rfl, h.2⟩, slots_hideO r⟩
  | .own o :: ss, x :: xs, fp, ⟨f1, f2, e, h, r⟩ => ⟨[], [], rfl, rfl, slots_hideO r⟩
  | [], _ :: _, _, h => h.elim
  | _ :: _, [], _, h => h.elim
theorem slots_setU {C : Ct} {D H : Hp} : ∀ {ss : Env} {σ : St} (i : Nat), SlotsOk C D H ss σ [] → SlotsOk C D H (ss.set i .un) (σ.set i none) []
  | [], [], i, h => rfl
  | a :: ss, x :: xs, 0, ⟨f1, f2, e, h, r⟩ => by
    obtain ⟨rfl, rfl⟩ := List.append_eq_nil_iff.mp e.symm
    exact ⟨[], [], rfl, rfl, r⟩
  | a :: ss, x :: xs, i + 1, ⟨f1, f2, e, h, r⟩ => by
    obtain ⟨rfl, rfl⟩ := List.append_eq_nil_iff.mp e.symm
    exact ⟨[], [], rfl, h, slots_setU i r⟩
  | [], _ :: _, _, h => h.elim
  | _ :: _, [], _, h => h.elim
theorem slots_wipe {C : Ct} {D H : Hp} {ss : Env} {σ : St} (h : SlotsOk C D H ss σ []) : ∀ vs : List Nat, SlotsOk C D H (wipeE ss vs) (wipe σ vs) []
  | [] => h
  | v :: vs => slots_setU v (slots_wipe h vs)
theorem wipe_at : ∀ (us : List Nat) (τ : St) (i : Nat), i ∈ us → i < τ.length → (wipe τ us)[i]? = some none
  | [], _, _, h, _ => by cases h
  | u :: us, τ, i, h, hl => by
    show ((wipe τ us).set u none)[i]? = some none
    by_cases e : u = i
    · subst e
      rw [List.getElem?_set_self (by rw [wipe_length]; exact hl)]
    · rw [List.getElem?_set_ne e]
      refine wipe_at us τ i ?_ hl
      rcases List.mem_cons.mp h with z | z
      · exact absurd z.symm e
      · exact z
theorem wipe_id : ∀ (us : List Nat) (τ : St), (∀ i ∈ us, i < τ.length → τ[i]? = some none) → wipe τ us = τ
  | [], _, _ => rfl
  | u :: us, τ, h => by
    show (wipe τ us).set u none = τ
    rw [wipe_id us τ fun i hi => h i (List.mem_cons_of_mem _ hi)]
    apply List.ext_getElem?
    intro j
    by_cases e : u = j
    · subst e
      by_cases hl : u < τ.length
      · rw [List.getElem?_set_self hl, h u List.mem_cons_self hl]
      · rw [List.getElem?_eq_none (by simpa using hl), List.getElem?_eq_none (by simpa using hl)]
    · rw [List.getElem?_set_ne e]
theorem wipe_wipe (vs : List Nat) (σ : St) : wipe (wipe σ vs) vs = wipe σ vs := wipe_id vs _ fun i hi hl => wipe_at vs σ i hi (by rw [wipe_length] at hl; exact hl)
/-- the comprehension's block of a context -/
def Fc.blk (F : Fc) (scope : Scope) : Fc := { F with sc := relS scope F.sc, top := false, bc := fun x => scope.names.lookup x == some .cell }
theorem On.blk {X : Cx} {scope : Scope} (O : On F X) (s : Shared) (H : Hp) (Ca : Addr) (cl : List (Str × Addr)) (fp : List Addr) : On (F.blk scope) (X.blk s H scope (compEnvC scope cl Ca X.env) fp) where
  prog := O.prog
  w := O.w
  K := O.K
  mg := O.mg
  base := O.base
  N := O.N
  sc := by
    show relabel scope X.env = relS scope F.sc
    rw [← O.sc] <;> rfl
  room := O.room
  hd := O.hd
  calm := O.calm
  fn := fun h => Bool.noConfusion h
  cd := fun h => Bool.noConfusion h
  stk := fun h => Bool.noConfusion h
  xa := fun h => Bool.noConfusion h
  fnb := fun _ h => h
theorem tk_blk {X : Cx} {s : Shared} {H : Hp} {scope : Scope} {e : PySem.Env} {fp : List Addr} : Tk (X.blk s H scope e fp) W0 := ⟨takes0, PassesOwn.never⟩
/-- tests of a comprehension -/
structure DTs (F : Fc) (es : List Expr) (g : GT) : Prop where
  ex : ∃ t : WX → TT, (∀ X W, On F X → Tk X W → PTs X es (t W)) ∧ ∀ W, DenT F W (t W) g
def gYes : GT := fun _ w => .ok true w
theorem dts_nil : DTs F [] gYes := ⟨⟨fun _ => tYes, fun X W O T => pts_nil, fun W C env w σ D H Q K S p => p D H S (Sub.refl _)⟩⟩
theorem dts_one {c : Expr} {g : GT} (h : DT F c g) : DTs F [c] g := let ⟨t, a, b⟩ := h.ex; ⟨⟨t, fun X W O T => pts_one (a X W O T), b⟩⟩
theorem den_lc {W : WX} {wi : TI} {g : TG} {tt : TT} {te : TE} {gi : GA} {b : Bd} {gt : GT} {ge : GE} {ix vs : List Nat} {F' : Fc} (hF : F'.K = F.K ∧ F'.cls = F.cls ∧ F'.tb = F.tb ∧ F'.xa = F.xa) (hi : DenI F W wi gi) (hg : DenG F' g b ix) (ht : DenT F' W0 tt gt) (he : DenE F' W0 te ge) (hix : ∀ i ∈ ix, i ∈ vs) : DenF F W (tLc wi g tt te vs) (gLc vs gi b gt ge) := by
  intro C env w σ D H Q K S p
  refine hi C env w σ D H _ K S ?_
  unfold gLc at p
  cases e : gi env w with
  | bad => rw [e] at p; exact p
  | exc c fs w1 => rw [e] at p; exact p
  | ok items w1 =>
    rw [e] at p
    simp only [Out.bind] at p
    intro J D1 H1 S1 s1 wk A hA
    have hDA : D1 A = none := none_of S1.up hA
    have hpdA : ¬ C.k.mu A := fun z => by
      obtain ⟨_, e1, _⟩ := S1.wd.there z
      rw [hA] at e1; cases e1
    -- the slots of the block
    obtain ⟨fp0, sl0, nd0, fr0⟩ := S1.sl
    have slH : SlotsOk C D1 H1 (hide vs env) (wipe σ vs) [] := slots_wipe (slots_hideO sl0) vs
    let Pv : Nat → Hp → Prop := fun i H' => ∃ D' w' acc accV, Ew C D1 H1 D' H' w' ∧ H' A = some (.lst accV) ∧ D' A = none ∧ RpL C.k D' accV acc ∧
      PostF C env σ D W (match lcG b gt ge (hide vs env) (items.drop i) acc w' with | .ok acc w2 => .ok (.lst acc) w2 | _ => .bad) Q
    refine lc_it wk Pv ?_ ?_ ?_ ?_
    · refine ⟨D1, w1, [], [], ((Ex.hid S1.up hA).ew S1.wd), upd_same, hDA, .nil, by simpa using p⟩
    · rintro i H' _ ⟨D', w', acc, accV, x, _⟩
      exact x.sub.trans x.up
    · rintro i x H' H'' hi ⟨D', w', acc, accV, ew, hAl, hDn, ra, p'⟩ y
      obtain ⟨d, hd, hy⟩ := y
      obtain ⟨D2, ex, r⟩ := hy D' ew.sub ew.up
      have hdr : items.drop i = d :: items.drop (i + 1) := by
        obtain ⟨hl, e⟩ := List.getElem?_eq_some_iff.mp hd
        rw [List.drop_eq_getElem_cons hl, e]
      rw [hdr] at p'
      unfold lcG at p'
      -- the block's state at this turn
      have wd2 : WdAt C.k w' D2 H'' := (ex.ew ew.wd).wd
      have S2 : Sta ⟨C.k, H'', D2⟩ (hide vs env) w' (wipe σ vs) D2 H'' [] := by
        refine ⟨ex.up, Sub.refl _, fun _ _ _ e => e, fun a e n => absurd e n, wd2, [], ?_, List.nodup_nil, fun q hq => (by cases hq)⟩
        exact SlotsOk.ct (C := C) (C' := ⟨C.k, H'', D2⟩) rfl (slH.mono (ew.sub.trans ex.sub) fun q hq => (by cases hq))
      have hA2 : H'' A = some (.lst accV) := ex.kp _ _ hAl
      have hDA2 : D2 A = none := by
        cases z : D2 A with
        | none => rfl
        | some u =>
          rw [ex.nw A hDn (by rw [z]; simp)] at hAl
          cases hAl
      -- what an evaluation from here leaves
      have keep : ∀ {env3 : Env} {w3 : Ds} {σ3 : St} {D3 H3 : Hp}, Sta ⟨C.k, H'', D2⟩ env3 w3 σ3 D3 H3 [] → Ew C D1 H1 D3 H3 w3 ∧ H3 A = some (.lst accV) ∧ D3 A = none ∧ RpL C.k D3 accV acc := by
        intro env3 w3 σ3 D3 H3 S3
        refine ⟨⟨ew.sub.trans (ex.sub.trans S3.d0), S3.up, fun b o hb e => S3.kp b o hb (ex.kp b o (ew.kp b o hb e)), fun a e n => ?_, S3.wd⟩, S3.kp A _ hpdA hA2, ?_, ra.mono (ex.sub.trans S3.d0)⟩
        · cases z : D2 a with
          | none =>
            have q : H'' a = none := S3.nw a z n
            cases zz : H1 a with
            | none => rfl
            | some u =>
              by_cases hp : C.k.mu a
              · obtain ⟨_, e1, _⟩ := wd2.there hp
                rw [q] at e1; cases e1
              · have := ex.kp a u (ew.kp a u hp zz)
                rw [q] at this; cases this
          | some u =>
            cases zz : D' a with
            | none =>
              have q : H' a = none := ex.nw a zz (by rw [z]; simp)
              cases zzz : H1 a with
              | none => rfl
              | some u =>
                by_cases hp : C.k.mu a
                · obtain ⟨_, e1, _⟩ := ew.wd.there hp
                  rw [q] at e1; cases e1
                · have := ew.kp a u hp zzz
                  rw [q] at this; cases this
            | some u' => exact ew.nw a e (by rw [zz]; simp)
        · cases z : D3 A with
          | none => rfl
          | some u =>
            have q : H'' A = none := S3.nw A hDA2 (by rw [z]; simp)
            rw [q] at hA2; cases hA2
      cases eb : b d (hide vs env) with
      | none => rw [eb] at p'; exact p'.elim
      | some e2 =>
        rw [eb] at p'
        simp only at p'
        have K' : Kin F' ⟨C.k, H'', D2⟩ := ⟨K.K.trans hF.1.symm, K.cls.trans hF.2.1.symm, K.tb.trans hF.2.2.1.symm, K.xa.trans hF.2.2.2.symm⟩
        refine hg ⟨C.k, H'', D2⟩ (hide vs env) w' (wipe σ vs) D2 H'' x d e2 _ K' S2 r eb fun σ3 S3 hw => ⟨(hw vs hix).trans (wipe_wipe vs σ), ?_⟩
        refine ht ⟨C.k, H'', D2⟩ e2 w' σ3 D2 H'' _ K' S3 ?_
        cases et : gt e2 w' with
        | bad => rw [et] at p'; exact p'.elim
        | exc c fs w1 => rw [et] at p'; exact p'.elim
        | ok t w3 =>
          rw [et] at p'
          intro D4 H4 S4 s4
          cases t with
          | false =>
            simp only at p'
            obtain ⟨k1, k2, k3, k4⟩ := keep S4
            exact iteF ⟨D4, w3, acc, accV, k1, k2, k3, k4, p'⟩
          | true =>
            simp only at p'
            refine iteT ?_
            refine he ⟨C.k, H'', D2⟩ e2 w3 σ3 D4 H4 _ K' S4 ?_
            cases ee : ge e2 w3 with
            | bad => rw [ee] at p'; exact p'.elim
            | exc c fs w1 => rw [ee] at p'; exact p'.elim
            | ok z w4 =>
              rw [ee] at p'
              simp only at p'
              intro v D5 H5 S5 s5 rv
              obtain ⟨k1, k2, k3, k4⟩ := keep S5
              by_cases hl : acc.length < sizeLine
              · rw [if_pos hl] at p'
                refine ⟨accV, k2, by rw [k4.length]; exact hl, D5, w4, acc ++ [z], accV ++ [v], ?_, upd_same, k3, k4.append (.cons rv .nil), p'⟩
                refine ⟨k1.sub, fun a q e => ?_, fun b o hb e => ?_, k1.nw, k1.wd.put k2 hpdA fun c q z => (by unfold LamX.CodeO at z; cases z)⟩
                · rw [upd_ne (ne_of_none e k3)]; exact k1.up a q e
                · rw [upd_ne (ne_of_none e hA)]; exact k1.kp b o hb e
              · rw [if_neg hl] at p'
                exact p'.elim
    · rintro H' ⟨D', w', acc, accV, ew, hAl, hDn, ra, p'⟩
      rw [List.drop_length] at p'
      have p2 : PostF C env σ D W (.ok (.lst acc) w') Q := p'
      have S2 : Sta C env w' σ D' H' [] := S1.ew (fun _ h => nomatch h) ew
      have S3 : Sta C env w' σ D' H' [A] := by
        obtain ⟨fp, h1, h2, h3⟩ := S2.sl
        have k2 : SlotsOk C D' H' env σ fp0 := sl0.mono ew.sub fun q hq u e => ew.kp q u (fr0 q (by simpa using hq)).2.2 e
        have hH0 : C.H0 A = none := by
          cases z : C.H0 A with
          | none => rfl
          | some u =>
            have := S1.kp A u hpdA z
            rw [hA] at this; cases this
        refine ⟨S2.up, S2.d0, S2.kp, S2.nw, S2.wd, fp0, k2, ?_, fun q hq => ?_⟩
        · refine List.nodup_cons.mpr ⟨fun hm => ?_, by simpa using nd0⟩
          obtain ⟨u, hu⟩ := sl0.there A hm
          rw [hA] at hu; cases hu
        · rcases List.mem_cons.mp hq with z | z
          · rw [z]; exact ⟨hDn, hH0, hpdA⟩
          · have f := fr0 q (by simpa using z)
            refine ⟨?_, f.2⟩
            cases zz : D' q with
            | none => rfl
            | some u =>
              obtain ⟨v, hv⟩ := sl0.there q z
              rw [ew.nw q f.1 (by rw [zz]; simp)] at hv
              cases hv
      exact p2 A [A] D' H' S3 (s1.trans ew.sub) ⟨rfl, accV, hAl, ra⟩
/-- a comprehension as a value -/
theorem df_lc {elt tg iter : Expr} {ifs : List Expr} {scope : Scope} {pos : PySem.Pos} {gi : GA} {b : Bd} {gt : GT} {ge : GE} {ix : List Nat} (own : List (Str × Nat)) (hc : F.calm = true) (hN : F.N.Nodup) (hi : DI F tg iter gi) (ok : blkC F.N F.sc scope own = true)
    (hg : DG (F.blk scope) tg b ix) (ht : DTs (F.blk scope) ifs gt) (he : DE (F.blk scope) elt ge) (hix : (ix.all fun i => decide (i ∈ own.map (·.2))) = true) (hs : ∀ env x, foldedSetIterable iter env x = pure x := by intro _ _; rfl) :
    DF F (.ListComp elt [⟨tg, iter, ifs, 0⟩] scope pos) (gLc (own.map (·.2)) gi b gt ge) := by
  obtain ⟨ti, i1, i2⟩ := hi.ex
  obtain ⟨g, g1, g2⟩ := hg.ex
  obtain ⟨tt, t1, t2⟩ := ht.ex
  obtain ⟨te, e1, e2⟩ := he.ex
  refine ⟨⟨fun W => tLc (ti W) g (tt W0) (te W0) (own.map (·.2)), fun X W O T => ?_, fun W => den_lc (F := F) (F' := F.blk scope) ⟨rfl, rfl, rfl, rfl⟩ (i2 W) g2 (t2 W0) (e2 W0) fun i h => of_decide_eq_true (List.all_eq_true.mp hix i h)⟩⟩
  refine pe_lc (O.calm hc) (by rw [O.N]; exact hN) (i1 X W O T) (blkOk_by (by rw [O.N, O.sc]; exact ok)) ?_ ?_ ?_ (hs _)
  · exact fun s H Ca cl fp => g1 _ (O.blk s H Ca cl fp)
  · exact fun s H Ca cl fp => t1 _ _ (O.blk s H Ca cl fp) tk_blk
  · exact fun s H Ca cl fp => e1 _ _ (O.blk s H Ca cl fp) tk_blk
/-- .. given to a name, kept as an owned list or as data -/
theorem ds_setLc {elt tg iter : Expr} {ifs : List Expr} {scope : Scope} {y : Str} {py pos spos : PySem.Pos} {gi : GA} {b : Bd} {gt : GT} {ge : GE} {ix : List Nat} (i : Nat) (own : List (Str × Nat)) (hc : F.calm = true) (hN : F.N.Nodup) (hy : F.N[i]? = some y) (hyl : F.sc.names.lookup y = some .local)
    (hk : F.sc.kind = .function) (hl : (py.line == pos.line) = true) (hsp : spos.line = spos.line) (ha : (scope.names.any fun (n, k) => n == y && (k == .local || k == .cell)) = false)
    (hi : DI F tg iter gi) (ok : blkC F.N F.sc scope own = true)
    (hg : DG (F.blk scope) tg b ix) (ht : DTs (F.blk scope) ifs gt) (he : DE (F.blk scope) elt ge) (hix : (ix.all fun i => decide (i ∈ own.map (·.2))) = true) (hs : ∀ env x, foldedSetIterable iter env x = pure x := by intro _ _; rfl) :
    DS F (.Assign [.Name y py] (.ListComp elt [⟨tg, iter, ifs, 0⟩] scope pos) spos) (sSetF i (gLc (own.map (·.2)) gi b gt ge)) := by
  obtain ⟨ti, i1, i2⟩ := hi.ex
  obtain ⟨g, g1, g2⟩ := hg.ex
  obtain ⟨tt, t1, t2⟩ := ht.ex
  obtain ⟨te, e1, e2⟩ := he.ex
  refine ⟨⟨fun W => tAsg (tLc (ti W) g (tt W0) (te W0) (own.map (·.2))) (gName i), fun X W O T => ?_, fun W C env w σ D H Dn K S p => ?_⟩⟩
  · refine ps_setLc (O.calm hc) (by rw [O.N]; exact hN) (by rw [O.N]; exact hy) (by rw [O.sc]; exact hyl) (sw_true (by rw [O.sc]; exact hk) (by rw [O.sc]; exact hyl) hl ha) (i1 X W O T) (blkOk_by (by rw [O.N, O.sc]; exact ok)) ?_ ?_ ?_ (hs _)
    · exact fun s H Ca cl fp => g1 _ (O.blk s H Ca cl fp)
    · exact fun s H Ca cl fp => t1 _ _ (O.blk s H Ca cl fp) tk_blk
    · exact fun s H Ca cl fp => e1 _ _ (O.blk s H Ca cl fp) tk_blk
  · have dl : DenF F W (tLc (ti W) g (tt W0) (te W0) (own.map (·.2))) (gLc (own.map (·.2)) gi b gt ge) := den_lc (F := F) (F' := F.blk scope) ⟨rfl, rfl, rfl, rfl⟩ (i2 W) g2 (t2 W0) (e2 W0) fun i h => of_decide_eq_true (List.all_eq_true.mp hix i h)
    refine dl C env w σ D H _ K S ?_
    unfold sSetF at p
    cases e : gLc (own.map (·.2)) gi b gt ge env w with
    | bad => rw [e] at p; exact p
    | exc c fs w1 => rw [e] at p; exact p σ
    | ok d w1 =>
      rw [e] at p
      intro q fp D' H' S' s' r
      simp only at p
      split at p
      · rename_i hl
        exact p _ D' H' (S'.set (s := .own d) ⟨q, rfl, r⟩ hl)
      · exact p.elim
/-- an owned name becomes data, nothing happens -/
def frzE (i : Nat) (env : Env) : Env := match env[i]? with
  | some (.own (.lst ds)) => env.set i (.dat (.lst ds))
  | some (.own (.dK ds)) => env.set i (.dat (.dic ds))
  | some (.own (.dT ds)) => env.set i (.dat (.dicT ds))
  | some (.own (.ins c fs)) => env.set i (.dat (.obj c (fs.map fun x => (x.1, x.2.dt))))
  | some (.own (.slf c fs)) => env.set i (.dat (.obj c (fs.map fun x => (x.1, x.2.dt))))
  | some (.own (.ll dss)) => env.set i (.dat (.lst (dss.map .lst)))
  | some (.own (.dL kvs)) => env.set i (.dat (.dicT (kvs.map fun kv => (kv.1, .lst kv.2))))
  | _ => env
end
end Dn
end
section
/-! Defs: what a def is worth on data; its calls. -/
namespace Dn
open PySem L2
/-- what a def hands back -/
inductive Fo where
  | dat (d : Dt) (w : Ds)
  | own (o : Ow) (w : Ds)
  | exc (c : Str) (fs : List (Str × Dt)) (w : Ds)
  | bad
abbrev Mf := List Dt → Ds → Fo
def PostC (C : Ct) (o : Fo) (Q : VK) (E : XK) : Prop := match o with
  | .dat d w => ∀ v D' H', Ew C C.D0 C.H0 D' H' w → Rp C.k D' v d → Q v H'
  | .own o w => ∀ p fp D' H', Ew C C.D0 C.H0 D' H' w → OwnAt C D' H' p o fp → fp.Nodup → (∀ q ∈ fp, D' q = none ∧ C.H0 q = none) → Q (.ref p) H'
  | .exc c fs w => ∀ Ca d D' H', Ew C C.D0 C.H0 D' H' w → ExcAt C D' H' c fs Ca d → E (.ref Ca) (some d) H'
  | .bad => False
def spM (K : PySem.W.Frag) (cls : Str → Option Addr) (tb : List (Addr × Str)) (n : Nat) (m : Mf) : Sp := fun vs H Q E => vs.length = n ∧ ∃ (k : Kp) (D : Hp) (ds : List Dt) (w : Ds), k.K = K ∧ k.cls = cls ∧ k.tb = tb ∧ k.xa = none ∧ Sub D H ∧ RpL k D vs ds ∧ WdAt k w D H ∧ PostC ⟨k, H, D⟩ (m ds w) Q E
def runM (n : Nat) (g : GS) : Mf := fun ds w => match g (ds.map Sl.dat ++ List.replicate (n - ds.length) .un) w with
  | .nx _ w => .dat .non w
  | .ret d w => .dat d w
  | .rtf o w => .own o w
  | .exc c fs _ w => .exc c fs w
  | _ => .bad
theorem slots_rep {C : Ct} {D H : Hp} : ∀ n : Nat, SlotsOk C D H (List.replicate n .un) (List.replicate n none) []
  | 0 => rfl
  | n + 1 => ⟨[], [], rfl, rfl, slots_rep n⟩
theorem slots_start {C : Ct} {D H : Hp} (n : Nat) : ∀ {vs : List V} {ds : List Dt}, RpL C.k D vs ds → SlotsOk C D H (ds.map Sl.dat ++ List.replicate n .un) (vs.map some ++ List.replicate n none) []
  | _, _, .nil => slots_rep n
  | _, _, .cons h r => ⟨[], [], rfl, ⟨rfl, _, rfl, h⟩, slots_start n r⟩
theorem Sta.done {C : Ct} {env : Env} {w : Ds} {σ : St} {D H : Hp} {fx : List Addr} (S : Sta C env w σ D H fx) : Ew C C.D0 C.H0 D H w := ⟨S.d0, S.up, S.kp, S.nw, S.wd⟩
theorem Ew.ct {C C' : Ct} {D H D' H' : Hp} {w : Ds} (hk : C.k = C'.k) (x : Ew C D H D' H' w) : Ew C' D H D' H' w := ⟨x.sub, x.up, hk ▸ x.kp, x.nw, by
  have := x.wd
  rw [← hk]
  exact this⟩
/-- THE RULE for a def (cd: its code object and that one's table, where it makes lambdas) -/
theorem fn_den {B : Bs} {N ps : List Str} {x qual : Str} {params : Arguments} {body : List Stmt} {scope : Scope} {dvs : List V} {kws : List (Str × V)} {f : Addr} {fd : FuncData} {g : GS} (lv : Nat) (cd : Option (Addr × Addr)) (Fu : FunD B.K x qual params body scope dvs kws f fd) (S : FnScope N ps scope)
    (hcq : ∀ q, cd = some q → fd.code = .ref q.1)
    (h : DB { toBs := B, N := N, sc := scope, lv := lv, calm := true, top := true, cd := cd, qual := qual ++ ".<locals>." } body g) : FnOk B.P B.w B.K B.mg B.base (L2.CX B.P B.w) (lv + 1) f fd ps (spM B.K B.cls B.tb ps.length (runM N.length g)) := by
  obtain ⟨oc, od, dV, kV, doc, pm, an, cdv, ct, osl, rfl, lk, hcd, _, _⟩ := Fu.ex
  refine fn_of lk hcd S (fun vs H Q E h => h.1) fun A outer s H vs Q E hr hsp => ?_
  obtain ⟨t, h1, h2⟩ := h.ex
  refine ⟨t (fun cls d _ H => E cls d H), h1 _ _ ⟨rfl, rfl, rfl, rfl, rfl, rfl, rfl, roomU_of hr, fun _ => hr.hd, fun _ => rfl, fun _ _ => rfl, fun _ q e => ⟨hcq q e, rfl⟩, fun _ => ⟨rfl, rfl⟩, fun _ _ h => (nomatch h), fun _ h => Bool.noConfusion h⟩ ⟨takes_of rfl rfl rfl rfl, passes_of rfl⟩, ?_⟩
  obtain ⟨hl, k, D, ds, w, kK, kc, kt, kx, up, r, wd, p⟩ := hsp
  have S0 : Sta ⟨k, H, D⟩ (ds.map Sl.dat ++ List.replicate (N.length - ds.length) .un) w (L2.start N vs) D H [] := by
    refine ⟨up, Sub.refl _, fun _ _ _ e => e, fun a e n => absurd e n, wd, [], ?_, List.nodup_nil, fun q hq => (by cases hq)⟩
    unfold L2.start
    rw [r.length]
    exact slots_start (C := ⟨k, H, D⟩) _ r
  refine h2 _ ⟨k, H, D⟩ _ w _ D H _ ⟨kK, kc, kt, kx⟩ S0 ?_
  unfold runM at p
  cases e : g (ds.map Sl.dat ++ List.replicate (N.length - ds.length) .un) w with
  | nx e1 w1 => rw [e] at p; exact fun σ D' H' S' => p .non D' H' S'.done .non
  | ret d w1 => rw [e] at p; exact fun e1 σ v D' H' S' r' => p v D' H' S'.done r'
  | rtf o w1 =>
    rw [e] at p
    intro e1 σ q fp D' H' S' r'
    obtain ⟨fs, g1, g2, g3⟩ := S'.sl
    exact p q fp D' H' S'.done r' (List.nodup_append.mp g2).1 fun b hb => ⟨(g3 b (List.mem_append_left _ hb)).1, (g3 b (List.mem_append_left _ hb)).2.1⟩
  | exc c fs e1 w1 => rw [e] at p; exact fun σ Ca d D' H' S' x => p Ca d D' H' S'.done x
  | bk e1 w1 => rw [e] at p; exact p.elim
  | ct e1 w1 => rw [e] at p; exact p.elim
  | bad => rw [e] at p; exact p.elim
/-- the def x of the module, called with na values, the rest by its defaults dds -/
structure FkA (B : Bs) (j : Nat) (x : Str) (na : Nat) (dds : List Dt) (m : Mf) : Prop where
  ex : ∃ (f : Addr) (fd : FuncData) (ps : List Str) (dvs : List V) (ds : List Value), B.mg x = some (.ref f) ∧ PySem.W.keepIn B.K (.ref f) = true ∧ FnOk B.P B.w B.K B.mg B.base (L2.CX B.P B.w) j f fd ps (spM B.K B.cls B.tb ps.length m) ∧
    Binds B.K fd ps ds ∧ Vals dvs ds ∧ ps.length = na + dds.length ∧ ∀ (k : Kp) (D : Hp), k.K = B.K → k.cls = B.cls → RpL k D dvs dds
def gCall (na : Nat) (dds : List Dt) (m : Mf) (ga : GA) : GE := fun env w => (ga env w).bind fun ds w1 => if ds.length = na then (match m (ds ++ dds) w1 with
  | .dat r w2 => .ok r w2
  | .own o w2 => .ok o.dt w2
  | .exc c fs w2 => .exc c fs w2
  | .bad => .bad) else .bad
def gCallF (na : Nat) (dds : List Dt) (m : Mf) (ga : GA) : GF := fun env w => (ga env w).bind fun ds w1 => if ds.length = na then (match m (ds ++ dds) w1 with
  | .own o w2 => .ok o w2
  | .exc c fs w2 => .exc c fs w2
  | _ => .bad) else .bad
section
variable {C : Ct} {env : Env} {w : Ds} {σ : St} {D H : Hp}
theorem Sta.freshW (S : Sta C env w σ D H []) {D' H' : Hp} {w' : Ds} (x : Ew C D H D' H' w') {fp : List Addr} (nd : fp.Nodup) (hn : ∀ q ∈ fp, D' q = none ∧ H q = none) : Sta C env w' σ D' H' fp := by
  have S' := S.ew (fun _ h => nomatch h) x
  obtain ⟨fs0, g1, g2, g3⟩ := S.sl
  have hH0 : ∀ q ∈ fp, C.H0 q = none ∧ ¬ C.k.mu q := fun q hq => by
    have e := (hn q hq).2
    refine ⟨?_, fun z => ?_⟩
    · cases z : C.H0 q with
      | none => rfl
      | some u =>
        by_cases hp : C.k.mu q
        · obtain ⟨_, e1, _⟩ := S.wd.there hp
          rw [e] at e1; cases e1
        · rw [S.kp q u hp z] at e; cases e
    · obtain ⟨_, e1, _⟩ := S.wd.there z
      rw [e] at e1; cases e1
  have k2 : SlotsOk C D' H' env σ fs0 := g1.mono x.sub fun q hq u e => x.kp q u (g3 q (by simpa using hq)).2.2 e
  refine ⟨S'.up, S'.d0, S'.kp, S'.nw, S'.wd, fs0, k2, ?_, fun q hq => ?_⟩
  · rw [List.nodup_append]
    refine ⟨nd, by simpa using g2, fun a ha b hb e => ?_⟩
    obtain ⟨u, hu⟩ := g1.there b hb
    rw [← e, (hn a ha).2] at hu
    cases hu
  · rcases List.mem_append.mp hq with z | z
    · exact ⟨(hn q z).1, hH0 q z⟩
    · have := g3 q (List.mem_append_right _ z)
      refine ⟨?_, this.2⟩
      cases zz : D' q with
      | none => rfl
      | some u =>
        obtain ⟨v, hv⟩ := g1.there q z
        rw [x.nw q this.1 (by rw [zz]; simp)] at hv
        cases hv
end
theorem den_callF {F : Fc} (hx : F.xa = none) {W : WX} {ta : TA} {ga : GA} {na n : Nat} {dds : List Dt} {dvs : List V} {m : Mf} (ha : DenL F W ta ga) (hn : n = na + dds.length) (hd : ∀ (k : Kp) (D : Hp), k.K = F.K → k.cls = F.cls → RpL k D dvs dds) : DenF F W (tCallSD (spM F.K F.cls F.tb n m) dvs (WE W) ta) (gCallF na dds m ga) := by
  intro C env w σ D H Q K S p
  refine ha C env w σ D H _ K S ?_
  unfold gCallF at p
  cases ea : ga env w with
  | bad => rw [ea] at p; exact p.elim
  | exc c fs w1 => rw [ea] at p; exact p
  | ok ds w1 =>
    rw [ea] at p
    simp only [Out.bind] at p
    intro vs D1 H1 S1 s1 r
    by_cases hl : ds.length = na
    · rw [if_pos hl] at p
      refine ⟨by rw [List.length_append, r.length, (hd C.k D1 K.K K.cls).length, hl, hn], C.k, D1, ds ++ dds, w1, K.K, K.cls, K.tb, K.xa.trans hx, S1.up, r.append (hd C.k D1 K.K K.cls), S1.wd, ?_⟩
      cases em : m (ds ++ dds) w1 with
      | bad => rw [em] at p; exact p
      | dat d w2 => rw [em] at p; exact p.elim
      | exc c fs w2 => rw [em] at p; exact fun Ca d D' H' x xx => p Ca d D' H' (S1.ew (fun _ h => nomatch h) (Ew.ct (C := ⟨C.k, H1, D1⟩) (C' := C) rfl x)) xx
      | own o w2 =>
        rw [em] at p
        exact fun q fp D' H' x ow nd hq => p q fp D' H' (S1.freshW (Ew.ct (C := ⟨C.k, H1, D1⟩) (C' := C) rfl x) nd hq) (s1.trans x.sub) (ow.ct rfl)
    · rw [if_neg hl] at p; exact p.elim
theorem den_call {F : Fc} (hx : F.xa = none) {W : WX} {ta : TA} {ga : GA} {na n : Nat} {dds : List Dt} {dvs : List V} {m : Mf} (ha : DenL F W ta ga) (hn : n = na + dds.length) (hd : ∀ (k : Kp) (D : Hp), k.K = F.K → k.cls = F.cls → RpL k D dvs dds) : DenE F W (tCallSD (spM F.K F.cls F.tb n m) dvs (WE W) ta) (gCall na dds m ga) := by
  intro C env w σ D H Q K S p
  refine ha C env w σ D H _ K S ?_
  unfold gCall at p
  cases ea : ga env w with
  | bad => rw [ea] at p; exact p.elim
  | exc c fs w1 => rw [ea] at p; exact p
  | ok ds w1 =>
    rw [ea] at p
    simp only [Out.bind] at p
    intro vs D1 H1 S1 s1 r
    by_cases hl : ds.length = na
    · rw [if_pos hl] at p
      refine ⟨by rw [List.length_append, r.length, (hd C.k D1 K.K K.cls).length, hl, hn], C.k, D1, ds ++ dds, w1, K.K, K.cls, K.tb, K.xa.trans hx, S1.up, r.append (hd C.k D1 K.K K.cls), S1.wd, ?_⟩
      cases em : m (ds ++ dds) w1 with
      | bad => rw [em] at p; exact p
      | dat d w2 => rw [em] at p; exact fun v D' H' x rv => p v D' H' (S1.ew (fun _ h => nomatch h) (Ew.ct (C := ⟨C.k, H1, D1⟩) (C' := C) rfl x)) (s1.trans x.sub) rv
      | exc c fs w2 => rw [em] at p; exact fun Ca d D' H' x xx => p Ca d D' H' (S1.ew (fun _ h => nomatch h) (Ew.ct (C := ⟨C.k, H1, D1⟩) (C' := C) rfl x)) xx
      | own o w2 =>
        rw [em] at p
        intro q fp D' H' x ow nd hq
        have S2 := S1.freshW (Ew.ct (C := ⟨C.k, H1, D1⟩) (C' := C) rfl x) nd hq
        have S2' : Sta C env w2 σ D' H' (fp ++ []) := by rw [List.append_nil]; exact S2
        obtain ⟨D3, S3, s3, r3⟩ := S2'.frz (ow.ct rfl)
        exact p _ D3 H' S3 (s1.trans (x.sub.trans s3)) r3
    · rw [if_neg hl] at p; exact p.elim
section
variable {F : Fc}
theorem de_call {x : Str} {p pos : PySem.Pos} {e : Expr} {es : List Expr} {ga : GA} {j na : Nat} {dds : List Dt} {m : Mf} (G : FkA F.toBs j x na dds m) (hj : j ≤ F.lv) (hg : F.sc.names.lookup x = some .globalImplicit) (h : DL F (e :: es) ga)
    (hdb : (x == ("__debug__" : Str)) = false := by decide +kernel) (he : ∀ env, starEach (e :: es) env = (false, eval e env) :: starEach es env := by intro _; rfl) (hpl : ∀ env, (backTo pos (starEach es env)).any (·.1) = false := by intro _; rfl) (hx : F.xa = none := by rfl) (hc : F.calm = true := by rfl) :
    DE F (.Call (.Name x p) (e :: es) [] pos) (gCall na dds m ga) := by
  obtain ⟨ta, a1, a2⟩ := h.ex
  obtain ⟨f, fd, ps, dvs, ds, hm, hk, fn, hb, hd, hn, hr⟩ := G.ex
  refine ⟨⟨fun W => tCallSD (spM F.K F.cls F.tb ps.length m) dvs (WE W) (ta W), fun X W O T => ?_, fun W => den_call hx (a2 W) hn hr⟩⟩
  refine pe_callSD (CX := L2.CX X.prog X.w) (f := f) (fd := fd) (ps := ps) (ds := ds) (k := j) ?_ ((O.full hc).mono hj) ?_ ?_ ?_ ?_ hd (fun σ => passAt T.tk σ) (a1 X W O T) hdb (he _) (hpl _)
  · rw [O.prog, O.w, O.K, O.mg, O.base]; exact fn
  · show X.env.scope.names.lookup x = _; rw [O.sc]; exact hg
  · rw [O.mg]; exact hm
  · rw [O.K]; exact hk
  · rw [O.K]; exact hb
theorem df_call {x : Str} {p pos : PySem.Pos} {e : Expr} {es : List Expr} {ga : GA} {j na : Nat} {dds : List Dt} {m : Mf} (G : FkA F.toBs j x na dds m) (hj : j ≤ F.lv) (hg : F.sc.names.lookup x = some .globalImplicit) (h : DL F (e :: es) ga)
    (hdb : (x == ("__debug__" : Str)) = false := by decide +kernel) (he : ∀ env, starEach (e :: es) env = (false, eval e env) :: starEach es env := by intro _; rfl) (hpl : ∀ env, (backTo pos (starEach es env)).any (·.1) = false := by intro _; rfl) (hx : F.xa = none := by rfl) (hc : F.calm = true := by rfl) :
    DF F (.Call (.Name x p) (e :: es) [] pos) (gCallF na dds m ga) := by
  obtain ⟨ta, a1, a2⟩ := h.ex
  obtain ⟨f, fd, ps, dvs, ds, hm, hk, fn, hb, hd, hn, hr⟩ := G.ex
  refine ⟨⟨fun W => tCallSD (spM F.K F.cls F.tb ps.length m) dvs (WE W) (ta W), fun X W O T => ?_, fun W => den_callF hx (a2 W) hn hr⟩⟩
  refine pe_callSD (CX := L2.CX X.prog X.w) (f := f) (fd := fd) (ps := ps) (ds := ds) (k := j) ?_ ((O.full hc).mono hj) ?_ ?_ ?_ ?_ hd (fun σ => passAt T.tk σ) (a1 X W O T) hdb (he _) (hpl _)
  · rw [O.prog, O.w, O.K, O.mg, O.base]; exact fn
  · show X.env.scope.names.lookup x = _; rw [O.sc]; exact hg
  · rw [O.mg]; exact hm
  · rw [O.K]; exact hk
  · rw [O.K]; exact hb
/-- f(): nothing raised -/
def gCall0 (dds : List Dt) (m : Mf) : GE := fun env w => match m dds w with
  | .dat r w2 => .ok r w2
  | _ => .bad
theorem de_call0 {x : Str} {p pos : PySem.Pos} {j : Nat} {dds : List Dt} {m : Mf} (G : FkA F.toBs j x 0 dds m) (hj : j ≤ F.lv) (hg : F.sc.names.lookup x = some .globalImplicit) (hdb : (x == ("__debug__" : Str)) = false := by decide +kernel) (hx : F.xa = none := by rfl) (hc : F.calm = true := by rfl) :
    DE F (.Call (.Name x p) [] [] pos) (gCall0 dds m) := by
  obtain ⟨f, fd, ps, dvs, ds, hm, hk, fn, hb, hd, hn, hr⟩ := G.ex
  refine ⟨⟨fun W => tCall (spM F.K F.cls F.tb ps.length m) dvs E0 tNil, fun X W O T => ?_, fun W C env w σ D H Q K S pp => ?_⟩⟩
  · refine pe_call0 (CX := L2.CX X.prog X.w) (f := f) (fd := fd) (ps := ps) (ds := ds) (k := j) ?_ ((O.full hc).mono hj) ?_ ?_ ?_ ?_ hd passL hdb
    · rw [O.prog, O.w, O.K, O.mg, O.base]; exact fn
    · show X.env.scope.names.lookup x = _; rw [O.sc]; exact hg
    · rw [O.mg]; exact hm
    · rw [O.K]; exact hk
    · rw [O.K]; exact hb
  · refine ⟨by rw [List.nil_append, (hr C.k D K.K K.cls).length]; omega, C.k, D, dds, w, K.K, K.cls, K.tb, K.xa.trans hx, S.up, hr C.k D K.K K.cls, S.wd, ?_⟩
    unfold gCall0 at pp
    cases em : m dds w with
    | bad => rw [em] at pp; exact pp
    | dat d w2 => rw [em] at pp; exact fun v D' H' x rv => pp v D' H' (S.ew (fun _ h => nomatch h) (Ew.ct (C := ⟨C.k, H, D⟩) (C' := C) rfl x)) x.sub rv
    | exc c fs w2 => rw [em] at pp; exact pp.elim
    | own o w2 => rw [em] at pp; exact pp.elim
end
end Dn
end
section
/-! Operators, comparisons, items, slices. -/
namespace Dn
open PySem L2
/-! ### flat data for == -/
mutual
def toPy : Dt → Option PyData
  | .non => some .none
  | .bl b => some (.bool b)
  | .int i => some (.int i)
  | .str x => some (.str x)
  | .tup xs => (toPys xs).map .tuple
  | .lst xs => (toPys xs).map .list
  | _ => none
def toPys : List Dt → Option (List PyData)
  | [] => some []
  | x :: xs => (toPy x).bind fun a => (toPys xs).map (a :: ·)
end
mutual
theorem dp_of {k : Kp} {D : Hp} : ∀ (d : Dt) {v : V} {p : PyData}, Rp k D v d → toPy d = some p → Dp k.K D v p
  | .non, _, _, h, e => by cases h; simp [toPy] at e; subst e; exact .non
  | .bl b, _, _, h, e => by cases h; simp [toPy] at e; subst e; exact .bl b
  | .int i, _, _, h, e => by cases h; simp [toPy] at e; subst e; exact .int i
  | .str x, _, _, h, e => by cases h; simp [toPy] at e; subst e; exact .str x
  | .tup xs, _, _, h, e => by
    cases h with
    | tup hs r =>
      unfold toPy at e
      cases q : toPys xs with
      | none => rw [q] at e; cases e
      | some ps =>
        rw [q] at e
        cases e
        exact .tup (SqT.of hs) (dps_of xs r q)
  | .lst xs, _, _, h, e => by
    cases h with
    | lst hs r =>
      unfold toPy at e
      cases q : toPys xs with
      | none => rw [q] at e; cases e
      | some ps =>
        rw [q] at e
        cases e
        exact .lst (SqL.of hs) (dps_of xs r q)
  | .dic _, _, _, h, e => by simp [toPy] at e
  | .dicF _, _, _, h, e => by simp [toPy] at e
  | .obj _ _, _, _, h, e => by simp [toPy] at e
  | .wd, _, _, h, e => by simp [toPy] at e
  | .scr _, _, _, h, e => by simp [toPy] at e
  | .emp, _, _, h, e => by simp [toPy] at e
theorem dps_of {k : Kp} {D : Hp} : ∀ (ds : List Dt) {vs : List V} {ps : List PyData}, RpL k D vs ds → toPys ds = some ps → DpAll k.K D vs ps
  | [], _, _, h, e => by cases h; simp [toPys] at e; subst e; exact .nil
  | d :: ds, _, _, h, e => by
    cases h with
    | cons h r =>
      unfold toPys at e
      cases q : toPy d with
      | none => rw [q] at e; cases e
      | some p =>
        rw [q] at e
        cases q2 : toPys ds with
        | none => simp [q2] at e
        | some ps =>
          simp [q2] at e
          subst e
          exact .cons (dp_of d h q) (dps_of ds r q2)
end
theorem rp_up {k : Kp} {D H : Hp} {v : V} {d : Dt} (u : Sub D H) (r : Rp k D v d) : Rp k H v d := r.mono u
/-! ### operators -/
def oAdd : Dt → Dt → Option Dt
  | .int i, .int j => some (.int (i + j))
  | .str x, .str y => if x.length + y.length ≤ sizeLine then some (.str (x ++ y)) else none
  | .tup xs, .tup ys => if xs ≠ [] ∧ xs.length + ys.length ≤ sizeLine then some (.tup (xs ++ ys)) else none
  | .lst xs, .lst ys => if xs.length + ys.length ≤ sizeLine then some (.lst (xs ++ ys)) else none
  | _, _ => none
def oSub : Dt → Dt → Option Dt
  | .int i, .int j => some (.int (i - j))
  | _, _ => none
def oMul : Dt → Dt → Option Dt
  | .int i, .int j => if (-(2 ^ 64) < i ∧ i < 2 ^ 64) ∨ (-(2 ^ 64) < j ∧ j < 2 ^ 64) then some (.int (i * j)) else none
  | _, _ => none
def oDiv : Dt → Dt → Option Dt
  | .int i, .int j => if 0 < j ∧ j < 1073741824 then some (.int (i / j)) else none
  | _, _ => none
def oMod : Dt → Dt → Option Dt
  | .int i, .int j => if 0 < j then some (.int (i % j)) else none
  | _, _ => none
def oPow : Dt → Dt → Option Dt
  | .int i, .int j => if 0 ≤ j ∧ j ≤ 1000000 ∧ i.natAbs < 2 ^ 64 then some (.int (i ^ j.toNat)) else none
  | _, _ => none
theorem pos_I {k : Kp} {P : Int → Int → Prop} [h : ∀ i j, Decidable (P i j)] {C : Int → Int → Prop} {g : Int → Int → Int} (hC : ∀ i j, P i j → C i j) {f : Dt → Dt → Option Dt} (hf : ∀ a b z, f a b = some z → ∃ i j, a = .int i ∧ b = .int j ∧ P i j ∧ z = .int (g i j)) : Pos2 k (rI C fun i j => .int (g i j)) f := by
  intro D H x y a b z u ra rb e Q q
  obtain ⟨i, j, rfl, rfl, hp, rfl⟩ := hf a b z e
  cases ra
  cases rb
  exact ⟨i, j, rfl, rfl, hC i j hp, q _ D H (Ex.refl u) (.int _)⟩
theorem pos_I0 {k : Kp} {g : Int → Int → Int} {f : Dt → Dt → Option Dt} (hf : ∀ a b z, f a b = some z → ∃ i j, a = .int i ∧ b = .int j ∧ z = .int (g i j)) : Pos2 k (rI0 fun i j => .int (g i j)) f := by
  intro D H x y a b z u ra rb e Q q
  obtain ⟨i, j, rfl, rfl, rfl⟩ := hf a b z e
  cases ra
  cases rb
  exact ⟨i, j, rfl, rfl, q _ D H (Ex.refl u) (.int _)⟩
section
variable {F : Fc}
theorem k_add : OpK F .Add oAdd := by
  refine ⟨⟨fun x y H Q => (rI0 fun i j => .int (i + j)) x y H Q ∨ (∃ i j, x = .str i ∧ y = .str j ∧ i.length + j.length ≤ sizeLine ∧ Q (.str (i ++ j)) H) ∨ rCatT F.K x y H Q ∨ rCat x y H Q, fun X O => by rw [← O.K]; exact op_add.or (op_add_str.or (op_catT.or op_cat)), fun k hK hc => ?_⟩⟩
  intro D H x y a b z u ra rb e Q q
  cases a <;> cases b <;> simp only [oAdd] at e <;> try (cases e; done)
  · cases e
    cases ra
    cases rb
    exact .inl ⟨_, _, rfl, rfl, q _ D H (Ex.refl u) (.int _)⟩
  · split at e
    · cases e
      cases ra
      cases rb
      exact .inr (.inl ⟨_, _, rfl, rfl, by assumption, q _ D H (Ex.refl u) (.str _)⟩)
    · cases e
  · split at e
    · rename_i hh
      cases e
      cases ra with
      | tup h1 r1 =>
        cases rb with
        | tup h2 r2 =>
          rename_i xs ys p vs p' us
          rw [← hK]
          refine .inr (.inr (.inl ⟨_, _, _, _, rfl, rfl, tupS u h1, tupS u h2, fun z => hh.1 ?_, by rw [r1.length, r2.length]; exact hh.2, fun z => ?_, fun z p hp => ?_⟩))
          · have := r1.length
            rw [z] at this
            exact List.length_eq_zero_iff.mp this.symm
          · have e2 : ys = [] := by
              have := r2.length
              rw [z] at this
              exact List.length_eq_zero_iff.mp this.symm
            refine q _ D H (Ex.refl u) ?_
            rw [e2, List.append_nil]
            exact .tup h1 r1
          · exact q _ _ _ (Ex.new u hp) (.tup upd_same ((r1.append r2).mono (Ex.new (o := .tup (vs ++ us)) u hp).sub))
    · cases e
  · split at e
    · cases e
      cases ra with
      | lst h1 r1 =>
        cases rb with
        | lst h2 r2 =>
          rename_i hh p vs p' us
          exact .inr (.inr (.inr ⟨_, _, _, _, rfl, rfl, u _ _ h1, u _ _ h2, by rw [r1.length, r2.length]; exact hh, fun p hp => q _ _ _ (Ex.new u hp) (.lst upd_same ((r1.append r2).mono (Ex.new (o := .lst (vs ++ us)) u hp).sub))⟩))
    · cases e
theorem k_sub : OpK F .Sub oSub := ⟨⟨_, fun X O => op_sub, fun k _ _ => pos_I0 (f := oSub) fun a b z e => by
  cases a <;> cases b <;> simp only [oSub] at e <;> try (cases e; done)
  cases e; exact ⟨_, _, rfl, rfl, rfl⟩⟩⟩
theorem k_mul : OpK F .Mult oMul := ⟨⟨_, fun X O => op_mul, fun k _ _ => pos_I (f := oMul) (P := CMul) (h := fun i j => by unfold CMul; infer_instance) (fun _ _ h => h) fun a b z e => by
  cases a <;> cases b <;> simp only [oMul] at e <;> try (cases e; done)
  split at e
  · rename_i h
    cases e; exact ⟨_, _, rfl, rfl, h, rfl⟩
  · cases e⟩⟩
theorem k_div : OpK F .FloorDiv oDiv := ⟨⟨_, fun X O => op_fdiv, fun k _ _ => pos_I (f := oDiv) (P := CDiv) (h := fun i j => by unfold CDiv; infer_instance) (fun _ _ h => h) fun a b z e => by
  cases a <;> cases b <;> simp only [oDiv] at e <;> try (cases e; done)
  split at e
  · rename_i h
    cases e; exact ⟨_, _, rfl, rfl, h, rfl⟩
  · cases e⟩⟩
theorem k_mod : OpK F .Mod oMod := ⟨⟨_, fun X O => op_mod, fun k _ _ => pos_I (f := oMod) (P := fun _ j => 0 < j) (h := fun i j => by infer_instance) (fun _ _ h => h) fun a b z e => by
  cases a <;> cases b <;> simp only [oMod] at e <;> try (cases e; done)
  split at e
  · rename_i h
    cases e; exact ⟨_, _, rfl, rfl, h, rfl⟩
  · cases e⟩⟩
theorem k_pow : OpK F .Pow oPow := ⟨⟨_, fun X O => op_pow, fun k _ _ => pos_I (f := oPow) (P := CPow) (h := fun i j => by unfold CPow; infer_instance) (fun _ _ h => h) fun a b z e => by
  cases a <;> cases b <;> simp only [oPow] at e <;> try (cases e; done)
  split at e
  · rename_i h
    cases e; exact ⟨_, _, rfl, rfl, h, rfl⟩
  · cases e⟩⟩
/-! ### comparisons -/
def eqD (a b : Dt) : Option Bool := (toPy a).bind fun p => (toPy b).bind fun q => if SeqAt.shaped p = true ∧ SeqAt.shaped q = true then some (PyData.eqv p q) else none
def oEq (a b : Dt) : Option Dt := (eqD a b).map .bl
def oNe (a b : Dt) : Option Dt := (eqD a b).map fun r => .bl (!r)
theorem eqD_some {a b : Dt} {r : Bool} (h : eqD a b = some r) : ∃ p q, toPy a = some p ∧ toPy b = some q ∧ SeqAt.shaped p = true ∧ SeqAt.shaped q = true ∧ r = PyData.eqv p q := by
  unfold eqD at h
  cases ea : toPy a with
  | none => rw [ea] at h; cases h
  | some p =>
    rw [ea] at h
    cases eb : toPy b with
    | none => rw [eb] at h; cases h
    | some q =>
      rw [eb] at h
      simp only [Option.bind] at h
      split at h
      · rename_i hh
        cases h
        exact ⟨p, q, rfl, rfl, hh.1, hh.2, rfl⟩
      · cases h
theorem c_eq : CmK F .Eq oEq := ⟨⟨rEqD F.K, fun X O => by rw [← O.K]; exact op_eqD O.room.units, fun k hK hc D H x y a b z u ra rb e Q q => by
  unfold oEq at e
  cases ee : eqD a b with
  | none => rw [ee] at e; cases e
  | some r =>
    rw [ee] at e
    cases e
    obtain ⟨p, p', e1, e2, s1, s2, rfl⟩ := eqD_some ee
    rw [← hK]
    exact ⟨p, p', dp_of a (rp_up u ra) e1, dp_of b (rp_up u rb) e2, s1, s2, q _ D H (Ex.refl u) (.bl _)⟩⟩⟩
theorem c_ne : CmK F .NotEq oNe := ⟨⟨rNeD F.K, fun X O => by rw [← O.K]; exact op_neD O.room.units, fun k hK hc D H x y a b z u ra rb e Q q => by
  unfold oNe at e
  cases ee : eqD a b with
  | none => rw [ee] at e; cases e
  | some r =>
    rw [ee] at e
    cases e
    obtain ⟨p, p', e1, e2, s1, s2, rfl⟩ := eqD_some ee
    rw [← hK]
    exact ⟨p, p', dp_of a (rp_up u ra) e1, dp_of b (rp_up u rb) e2, s1, s2, q _ D H (Ex.refl u) (.bl _)⟩⟩⟩
def oLt : Dt → Dt → Option Dt
  | .int i, .int j => some (.bl (decide (i < j)))
  | .str x, .str y => some (.bl (decide (x.cps.toList < y.cps.toList)))
  | _, _ => none
def oLe : Dt → Dt → Option Dt
  | .int i, .int j => some (.bl (decide (i ≤ j)))
  | .str x, .str y => some (.bl (!decide (y.cps.toList < x.cps.toList)))
  | _, _ => none
def oGt : Dt → Dt → Option Dt
  | .int i, .int j => some (.bl (decide (j < i)))
  | .str x, .str y => some (.bl (decide (y.cps.toList < x.cps.toList)))
  | _, _ => none
def oGe : Dt → Dt → Option Dt
  | .int i, .int j => some (.bl (decide (j ≤ i)))
  | .str x, .str y => some (.bl (!decide (x.cps.toList < y.cps.toList)))
  | _, _ => none
theorem c_lt : CmK F .Lt oLt := ⟨⟨_, fun X O => op_lt.or op_lt_str, fun k hK hc D H x y a b z u ra rb e Q q => by
  cases a <;> cases b <;> simp only [oLt] at e <;> try (cases e; done)
  · cases e; cases ra; cases rb; exact .inl ⟨_, _, rfl, rfl, q _ D H (Ex.refl u) (.bl _)⟩
  · cases e; cases ra; cases rb; exact .inr ⟨_, _, rfl, rfl, q _ D H (Ex.refl u) (.bl _)⟩⟩⟩
theorem c_le : CmK F .LtE oLe := ⟨⟨_, fun X O => op_le.or op_le_str, fun k hK hc D H x y a b z u ra rb e Q q => by
  cases a <;> cases b <;> simp only [oLe] at e <;> try (cases e; done)
  · cases e; cases ra; cases rb; exact .inl ⟨_, _, rfl, rfl, q _ D H (Ex.refl u) (.bl _)⟩
  · cases e; cases ra; cases rb; exact .inr ⟨_, _, rfl, rfl, q _ D H (Ex.refl u) (.bl _)⟩⟩⟩
theorem c_gt : CmK F .Gt oGt := ⟨⟨_, fun X O => op_gt.or op_gt_str, fun k hK hc D H x y a b z u ra rb e Q q => by
  cases a <;> cases b <;> simp only [oGt] at e <;> try (cases e; done)
  · cases e; cases ra; cases rb; exact .inl ⟨_, _, rfl, rfl, q _ D H (Ex.refl u) (.bl _)⟩
  · cases e; cases ra; cases rb; exact .inr ⟨_, _, rfl, rfl, q _ D H (Ex.refl u) (.bl _)⟩⟩⟩
theorem c_ge : CmK F .GtE oGe := ⟨⟨_, fun X O => op_ge.or op_ge_str, fun k hK hc D H x y a b z u ra rb e Q q => by
  cases a <;> cases b <;> simp only [oGe] at e <;> try (cases e; done)
  · cases e; cases ra; cases rb; exact .inl ⟨_, _, rfl, rfl, q _ D H (Ex.refl u) (.bl _)⟩
  · cases e; cases ra; cases rb; exact .inr ⟨_, _, rfl, rfl, q _ D H (Ex.refl u) (.bl _)⟩⟩⟩
def isNon : Dt → Bool
  | .non => true
  | _ => false
theorem isNon_rp {k : Kp} {D : Hp} {v : V} {d : Dt} (r : Rp k D v d) : decide (v = .non) = isNon d := by cases r <;> simp [isNon]
def oIs : Dt → Dt → Option Dt
  | a, .non => some (.bl (isNon a))
  | _, _ => none
def oIsNot : Dt → Dt → Option Dt
  | a, .non => some (.bl (!isNon a))
  | _, _ => none
theorem c_is : CmK F .Is oIs := ⟨⟨_, fun X O => op_isN, fun k hK hc D H x y a b z u ra rb e Q q => by
  cases b <;> simp only [oIs] at e <;> try (cases e; done)
  cases e; cases rb
  exact ⟨rfl, by rw [isNon_rp ra]; exact q _ D H (Ex.refl u) (.bl _)⟩⟩⟩
theorem c_isNot : CmK F .IsNot oIsNot := ⟨⟨_, fun X O => op_notN, fun k hK hc D H x y a b z u ra rb e Q q => by
  cases b <;> simp only [oIsNot] at e <;> try (cases e; done)
  cases e; cases rb
  exact ⟨rfl, by rw [isNon_rp ra]; exact q _ D H (Ex.refl u) (.bl _)⟩⟩⟩
/-- x in y -/
def anyEq (p : PyData) : List PyData → Bool := fun ds => ds.any fun z => PyData.eqv z p
def inD : Dt → Dt → Option Bool
  | .str x, .str y => match x.cps.toList with
    | [c] => some (decide (c ∈ y.cps.toList))
    | _ => some (!(Builtin.Str.occurrences y x 0 y.length 1).isEmpty)
  | a, .lst ys => (toPy a).bind fun p => (toPys ys).bind fun ps => if SeqAt.shaped p = true ∧ SeqAt.shaped (.list ps) = true then some (anyEq p ps) else none
  | _, _ => none
def oIn (a b : Dt) : Option Dt := (inD a b).map .bl
def oNotIn (a b : Dt) : Option Dt := (inD a b).map fun r => .bl (!r)
theorem inD_lst {a : Dt} {ys : List Dt} {r : Bool} (h : inD a (.lst ys) = some r) : ∃ p ps, toPy a = some p ∧ toPys ys = some ps ∧ SeqAt.shaped p = true ∧ SeqAt.shaped (.list ps) = true ∧ r = anyEq p ps := by
  have h' : ((toPy a).bind fun p => (toPys ys).bind fun ps => if SeqAt.shaped p = true ∧ SeqAt.shaped (.list ps) = true then some (anyEq p ps) else none) = some r := by
    cases a <;> exact h
  cases ea : toPy a with
  | none => rw [ea] at h'; cases h'
  | some p =>
    rw [ea] at h'
    cases eb : toPys ys with
    | none => rw [eb] at h'; cases h'
    | some q =>
      rw [eb] at h'
      simp only [Option.bind] at h'
      split at h'
      · rename_i hh
        cases h'
        exact ⟨p, q, rfl, rfl, hh.1, hh.2, rfl⟩
      · cases h'
theorem str_one {x : Str} {c : Nat} (h : x.cps.toList = [c]) : x = ⟨#[c]⟩ := by
  obtain ⟨a⟩ := x
  have : a = #[c] := by
    apply Array.ext'
    exact h
  rw [this]
theorem c_in : CmK F .In oIn := by
  refine ⟨⟨fun x y H Q => (∃ (c : Nat) (z : Str), x = .str ⟨#[c]⟩ ∧ y = .str z ∧ Q (.bl (decide (c ∈ z.cps.toList))) H) ∨ (∃ i j, x = .str i ∧ y = .str j ∧ Q (.bl (!(Builtin.Str.occurrences j i 0 j.length 1).isEmpty)) H) ∨ rInD F.K x y H Q,
    fun X O => by rw [← O.K]; exact op_in_sign.or (op_in_str.or (op_inD (by have := O.room.un; omega))), fun k hK hc D H x y a b z u ra rb e Q q => ?_⟩⟩
  unfold oIn at e
  cases b <;> try (cases a <;> cases e; done)
  · cases a <;> try (cases e; done)
    cases ra
    cases rb
    rename_i x y
    simp only [inD] at e
    split at e
    · rename_i c hc
      cases e
      exact .inl ⟨c, x, by rw [str_one hc], rfl, q _ D H (Ex.refl u) (.bl _)⟩
    · cases e
      exact .inr (.inl ⟨_, _, rfl, rfl, q _ D H (Ex.refl u) (.bl _)⟩)
  · cases ee : inD a (.lst _) with
    | none => rw [ee] at e; cases e
    | some r =>
      rw [ee] at e
      cases e
      obtain ⟨p, ps, e1, e2, s1, s2, rfl⟩ := inD_lst ee
      rw [← hK]
      refine .inr (.inr ⟨p, ps, dp_of a (rp_up u ra) e1, dp_of (.lst _) (rp_up u rb) (by simp [toPy, e2]), s1, s2, q _ D H (Ex.refl u) (.bl _)⟩)
theorem c_notIn : CmK F .NotIn oNotIn := by
  refine ⟨⟨fun x y H Q => (∃ (c : Nat) (z : Str), x = .str ⟨#[c]⟩ ∧ y = .str z ∧ Q (.bl (!decide (c ∈ z.cps.toList))) H) ∨ (∃ i j, x = .str i ∧ y = .str j ∧ Q (.bl (!(!(Builtin.Str.occurrences j i 0 j.length 1).isEmpty))) H) ∨ rNotInD F.K x y H Q,
    fun X O => by rw [← O.K]; exact op_notIn_sign.or (op_notIn_str.or (op_notInD (by have := O.room.un; omega))), fun k hK hc D H x y a b z u ra rb e Q q => ?_⟩⟩
  unfold oNotIn at e
  cases b <;> try (cases a <;> cases e; done)
  · cases a <;> try (cases e; done)
    cases ra
    cases rb
    rename_i x y
    simp only [inD] at e
    split at e
    · rename_i c hc
      cases e
      exact .inl ⟨c, x, by rw [str_one hc], rfl, q _ D H (Ex.refl u) (.bl _)⟩
    · cases e
      exact .inr (.inl ⟨_, _, rfl, rfl, q _ D H (Ex.refl u) (.bl _)⟩)
  · cases ee : inD a (.lst _) with
    | none => rw [ee] at e; cases e
    | some r =>
      rw [ee] at e
      cases e
      obtain ⟨p, ps, e1, e2, s1, s2, rfl⟩ := inD_lst ee
      rw [← hK]
      refine .inr (.inr ⟨p, ps, dp_of a (rp_up u ra) e1, dp_of (.lst _) (rp_up u rb) (by simp [toPy, e2]), s1, s2, q _ D H (Ex.refl u) (.bl _)⟩)
end
end Dn
end
section
/-! Items, slices, calls of built-ins. -/
namespace Dn
open PySem L2
section
variable {F : Fc}
/-! ### items -/
def oIx (w : Ds) : Dt → Dt → Option Dt
  | .lst xs, .int i => atI xs i
  | .tup xs, .int i => atI xs i
  | .str z, .int i => if z.length ≤ sizeLine then (atI z.cps.toList i).map fun c => .str ⟨#[c]⟩ else none
  | .scr ns, .int i => (atI ns i).map .int
  | .wd, .int i => atI [.scr w.ns, .int w.pl, .int w.rem, .int w.seed] i
  | _, _ => none
def gIx (ga gb : GE) : GE := fun env w => (ga env w).bind fun a w1 => (gb env w1).bind fun b w2 => match oIx w2 a b with
  | some r => .ok r w2
  | none => .bad
theorem atI_rp {k : Kp} {D : Hp} {vs : List V} {ds : List Dt} {i : Int} {d : Dt} (r : RpL k D vs ds) (h : atI ds i = some d) : ∃ v, atI vs i = some v ∧ Rp k D v d := by
  unfold atI at h ⊢
  rw [r.length]
  cases e : ixN ds.length i with
  | none => rw [e] at h; cases h
  | some j =>
    rw [e] at h
    exact r.get' h
theorem den_ix {W : WX} {ta tb : TE} {ga gb : GE} (ha : DenE F W ta ga) (hb : DenE F W tb gb) : DenE F W (tOp (rIx F.K) ta tb) (gIx ga gb) := by
  intro C env w σ D H Q K S p
  refine ha C env w σ D H _ K S ?_
  unfold gIx at p
  cases ea : ga env w with
  | bad => rw [ea] at p; exact p.elim
  | exc c fs w1 => rw [ea] at p; exact p
  | ok a w1 =>
    rw [ea] at p
    intro x D1 H1 S1 s1 ra
    refine hb C env w1 σ D1 H1 _ K S1 ?_
    simp only [Out.bind] at p
    cases eb : gb env w1 with
    | bad => rw [eb] at p; exact p.elim
    | exc c fs w2 => rw [eb] at p; exact p
    | ok b w2 =>
      rw [eb] at p
      intro y D2 H2 S2 s2 rb
      simp only [Out.bind] at p
      cases ef : oIx w2 a b with
      | none => rw [ef] at p; exact p.elim
      | some z =>
        rw [ef] at p
        have ra2 := ra.mono s2
        have fin : ∀ v, Rp C.k D2 v z → Q v H2 := fun v r => p v D2 H2 S2 (s1.trans s2) r
        cases b with
        | int i =>
          cases rb
          cases a with
          | lst xs =>
            cases ra2 with
            | lst h r =>
              obtain ⟨v, hv, rv⟩ := atI_rp r ef
              exact .inl ⟨_, _, i, v, rfl, rfl, SqL.of (S2.up _ _ h), hv, fin v rv⟩
          | tup xs =>
            cases ra2 with
            | tup h r =>
              obtain ⟨v, hv, rv⟩ := atI_rp r ef
              rw [← K.K]
              exact .inr (.inl ⟨_, _, i, v, rfl, rfl, tupS S2.up h, hv, fin v rv⟩)
          | str q =>
            cases ra2
            simp only [oIx] at ef
            split at ef
            · rename_i hl
              cases ec : atI q.cps.toList i with
              | none => rw [ec] at ef; cases ef
              | some c =>
                rw [ec] at ef
                cases ef
                exact .inr (.inr ⟨q, i, c, rfl, rfl, hl, ec, fin _ (.str _)⟩)
            · cases ef
          | scr ns =>
            cases ra2 with
            | scr h =>
              simp only [oIx] at ef
              cases ec : atI ns i with
              | none => rw [ec] at ef; cases ef
              | some c =>
                rw [ec] at ef
                cases ef
                have e2 : atI (ns.map V.int) i = some (V.int c) := by
                  unfold atI at ec ⊢
                  rw [List.length_map]
                  cases e : ixN ns.length i with
                  | none => rw [e] at ec; cases ec
                  | some j =>
                    rw [e] at ec
                    have ec' : ns[j]? = some c := ec
                    show (ns.map V.int)[j]? = _
                    rw [List.getElem?_map, ec'] <;> rfl
                rw [← K.K]
                exact .inl ⟨_, _, i, _, rfl, rfl, sqL_sub S2.up h, e2, fin _ (.int _)⟩
          | wd =>
            cases ra2 with
            | wd hp =>
              obtain ⟨h1, h2, h4, h3⟩ := S2.wd.dr _ hp
              have r4 : RpL C.k D2 [V.ref C.k.sq, .int w2.pl, .int w2.rem, .int w2.seed] [.scr w2.ns, .int w2.pl, .int w2.rem, .int w2.seed] := .cons (.scr (by rw [h4]; exact h3)) (.cons (.int _) (.cons (.int _) (.cons (.int _) .nil)))
              obtain ⟨v, hv, rv⟩ := atI_rp r4 ef
              exact .inl ⟨_, _, i, v, rfl, rfl, SqL.of h1, hv, fin v rv⟩
          | _ => cases ef
        | _ => cases a <;> cases ef
theorem de_ix {a b : Expr} {pos : PySem.Pos} {ga gb : GE} (ha : DE F a ga) (hb : DE F b gb) (hs : PlainIx b := by intro _ _; rfl) : DE F (.Subscript a b pos) (gIx ga gb) := by
  obtain ⟨ta, a1, a2⟩ := ha.ex
  obtain ⟨tb, b1, b2⟩ := hb.ex
  exact ⟨⟨fun W => tOp (rIx F.K) (ta W) (tb W), fun X W O T => pe_ix (by rw [← O.K]; exact ix_seq) (a1 X W O T) (b1 X W O T) hs, fun W => den_ix (a2 W) (b2 W)⟩⟩
/-! ### the draws' list written -/
def wdPut (w : Ds) (i v : Int) : Option Ds := if i = 1 then some { w with pl := v } else if i = 2 then some { w with rem := v } else if i = 3 then some { w with seed := v } else none
/-- d[i] = e, d the draws' list in slot n, i written -/
def sWd (n : Nat) (i : Int) (g : GE) : GS := fun env w => match g env w with
  | .ok (.int v) w1 => match env[n]? with
    | some (.dat .wd) => match wdPut w1 i v with
      | some w2 => .nx env w2
      | none => .bad
    | _ => .bad
  | .ok _ _ => .bad
  | .exc c fs w1 => .exc c fs env w1
  | .bad => .bad
theorem Sta.wdSet {C : Ct} {env : Env} {w w' : Ds} {σ : St} {D H : Hp} {p : Addr} (S : Sta C env w σ D H []) (hp : C.k.pd = some p) (hn : w'.ns = w.ns) : Sta C env w' σ D (upd H p (.lst [.ref C.k.sq, .int w'.pl, .int w'.rem, .int w'.seed])) [] := by
  obtain ⟨h1, h2, h4, h3⟩ := S.wd.dr p hp
  obtain ⟨fp, g1, g2, g3⟩ := S.sl
  refine ⟨fun a o e => ?_, S.d0, fun b o hb e => ?_, S.nw, ⟨fun q hq => ?_, fun q hq => ⟨tabs_put (S.wd.tb q hq).1 h1 (fun z => ?_) (fun c z => by unfold LamX.CodeO at z; cases z), (S.wd.tb q hq).2⟩, fun a xs e => (by
    by_cases z : a = p
    · rw [z, upd_same] at e; cases e
    · rw [upd_ne z] at e; exact S.wd.tp a xs e)⟩, fp, g1.mono (Sub.refl _) fun q hq u e => ?_, g2, g3⟩
  · rw [upd_ne (ne_of_none e h2)]; exact S.up a o e
  · rw [upd_ne fun z => hb (by rw [z]; exact .inl hp)]; exact S.kp b o hb e
  · rw [hp] at hq
    cases hq
    exact ⟨upd_same, h2, hn.trans h4, h3⟩
  · obtain ⟨⟨ps, e, _⟩, _⟩ := S.wd.tb q hq
    rw [← z, h1] at e
    cases e
  · rw [upd_ne fun z => (g3 q hq).2.2 (by rw [z]; exact .inl hp)]; exact e
theorem ds_wd {x : Str} {e : Expr} {i : Int} {j : Nat} {p1 p2 p3 pos : PySem.Pos} {g : GE} (n : Nat) (hN : F.N[n]? = some x) (hv : Vis F.sc x) (h : DE F e g) (hi : i = 1 ∨ i = 2 ∨ i = 3) (hd : (x == ("__debug__" : Str)) = false := by decide +kernel) (hcd : (x == ("__classdict__" : Str)) = false := by decide +kernel)
    (hs : ∀ env, swapsWithSole [.Subscript (.Name x p1) (.Constant (.int i) j p2) p3] e pos.line env = pure false := by intro _; rfl) (hw : ∀ env, swappedStores [.Subscript (.Name x p1) (.Constant (.int i) j p2) p3] e env = pure none := by intro _; rfl) (h1 : ∀ env, (assignEach [.Subscript (.Name x p1) (.Constant (.int i) j p2) p3] env).map (·.2) = [assign (.Subscript (.Name x p1) (.Constant (.int i) j p2) p3) env] := by intro _; rfl) :
    DS F (.Assign [.Subscript (.Name x p1) (.Constant (.int i) j p2) p3] e pos) (sWd n i g) := by
  obtain ⟨t, a1, a2⟩ := h.ex
  refine ⟨⟨fun W => tAsg (t W) (gSub (tVar n) (tC (.int i)) rSetL), fun X W O T => ps_asg (a1 X W O T) (pg_sub (pe_var (by rw [O.N]; exact hN) (by rw [O.sc]; exact hv) hd hcd) pe_int set_list) (hs _) (hw _) (h1 _), fun W C env w σ D H Dn K S p => ?_⟩⟩
  refine a2 W C env w σ D H _ K S ?_
  unfold sWd at p
  cases e : g env w with
  | bad => rw [e] at p; exact p
  | exc c fs w1 => rw [e] at p; exact p σ
  | ok d w1 =>
    rw [e] at p
    intro v D' H' S' s' r
    cases d with
    | int z =>
      cases r
      simp only at p
      cases en : env[n]? with
      | none => rw [en] at p; exact p.elim
      | some s =>
        rw [en] at p
        cases s with
        | un => exact p.elim
        | own o => exact p.elim
        | dat d =>
          cases d with
          | wd =>
            simp only at p
            obtain ⟨v, hv, rv⟩ := S'.dat en
            cases rv with
            | wd hp =>
              obtain ⟨g1, g2, g4, g3⟩ := S'.wd.dr _ hp
              cases ew : wdPut w1 i z with
              | none => rw [ew] at p; exact p.elim
              | some w2 =>
                rw [ew] at p
                have key : ∃ m : Nat, ixN 4 i = some m ∧ ([V.ref C.k.sq, .int w1.pl, .int w1.rem, .int w1.seed].set m (.int z)) = [V.ref C.k.sq, .int w2.pl, .int w2.rem, .int w2.seed] ∧ w2.ns = w1.ns := by
                  rcases hi with rfl | rfl | rfl
                  · cases ew; exact ⟨1, rfl, rfl, rfl⟩
                  · cases ew; exact ⟨2, rfl, rfl, rfl⟩
                  · cases ew; exact ⟨3, rfl, rfl, rfl⟩
                obtain ⟨m, k1, k2, k3⟩ := key
                refine ⟨_, hv, _, _, i, m, rfl, rfl, g1, k1, ?_⟩
                rw [k2]
                exact p σ D' _ (S'.wdSet hp k3)
          | _ => exact p.elim
    | _ => exact p.elim
/-! ### slices -/
def cutG {α : Type} (xs : List α) (lo hi : Option Int) : List α := (xs.drop (HT.sIx xs.length 0 lo)).take (HT.sIx xs.length xs.length hi - HT.sIx xs.length 0 lo)
theorem cutG_rp {k : Kp} {D : Hp} {vs : List V} {ds : List Dt} (r : RpL k D vs ds) (lo hi : Option Int) : RpL k D (cutV vs lo hi) (cutG ds lo hi) := by
  unfold cutV cutG
  rw [r.length]
  exact (r.drop _).take _
abbrev GO := Env → Ds → Out (Option Int)
def PostO (C : Ct) (env : Env) (σ : St) (D : Hp) (W : WX) (o : Out (Option Int)) (Q : Option Int → Hp → Prop) : Prop := match o with
  | .ok r w => ∀ D' H', Sta C env w σ D' H' [] → Sub D D' → Q r H'
  | .exc c fs w => PostX C env σ W c fs w
  | .bad => False
def DenO (F : Fc) (W : WX) (t : TO) (g : GO) : Prop := ∀ C env w σ D H Q, Kin F C → Sta C env w σ D H [] → PostO C env σ D W (g env w) Q → t σ H Q
structure DO (F : Fc) (e : Option Expr) (g : GO) : Prop where
  ex : ∃ t : WX → TO, (∀ X W, On F X → Tk X W → PO X e (t W)) ∧ ∀ W, DenO F W (t W) g
def gNoPart : GO := fun _ w => .ok none w
def gPart (g : GE) : GO := fun env w => (g env w).bind fun a w1 => match a with
  | .int i => .ok (some i) w1
  | _ => .bad
theorem do_none : DO F none gNoPart := ⟨⟨fun _ => tNoPart, fun _ _ _ _ => po_none, fun W C env w σ D H Q K S p => p D H S (Sub.refl _)⟩⟩
theorem do_some {e : Expr} {g : GE} (h : DE F e g) : DO F (some e) (gPart g) := by
  obtain ⟨t, a1, a2⟩ := h.ex
  refine ⟨⟨fun W => tPart (t W), fun X W O T => po_some (a1 X W O T), fun W C env w σ D H Q K S p => ?_⟩⟩
  refine a2 W C env w σ D H _ K S ?_
  unfold gPart at p
  cases ea : g env w with
  | bad => rw [ea] at p; exact p.elim
  | exc c fs w1 => rw [ea] at p; exact p
  | ok o w1 =>
    rw [ea] at p
    simp only [Out.bind] at p
    intro v D' H' S' s' r
    cases o with
    | int i => cases r; exact ⟨i, rfl, p D' H' S' s'⟩
    | _ => exact p.elim
def oSl : Dt → Option Int → Option Int → Option Dt
  | .str z, lo, hi => if z.length ≤ sizeLine then some (.str (cutS z lo hi)) else none
  | .lst xs, lo, hi => some (.lst (cutG xs lo hi))
  | .tup xs, lo, hi => if HT.sIx xs.length 0 lo = 0 ∧ HT.sIx xs.length xs.length hi = xs.length then none else some (.tup (cutG xs lo hi))
  | _, _, _ => none
def gSl (ga : GE) (gl gh : GO) : GE := fun env w => (ga env w).bind fun a w1 => (gl env w1).bind fun lo w2 => (gh env w2).bind fun hi w3 => match oSl a lo hi with
  | some r => .ok r w3
  | none => .bad
def rSlA (K : PySem.W.Frag) : V → Option Int → Option Int → Hp → VK → Prop := fun x lo hi H Q => rSlS x lo hi H Q ∨ rSlL K x lo hi H Q ∨ rSlT K x lo hi H Q
theorem den_sl {W : WX} {ta : TE} {tl th : TO} {ga : GE} {gl gh : GO} (ha : DenE F W ta ga) (hl : DenO F W tl gl) (hh : DenO F W th gh) : DenE F W (tSl (rSlA F.K) ta tl th) (gSl ga gl gh) := by
  intro C env w σ D H Q K S p
  refine ha C env w σ D H _ K S ?_
  unfold gSl at p
  cases ea : ga env w with
  | bad => rw [ea] at p; exact p.elim
  | exc c fs w1 => rw [ea] at p; exact p
  | ok a w1 =>
    rw [ea] at p
    intro x D1 H1 S1 s1 ra
    refine hl C env w1 σ D1 H1 _ K S1 ?_
    simp only [Out.bind] at p
    cases el : gl env w1 with
    | bad => rw [el] at p; exact p.elim
    | exc c fs w2 => rw [el] at p; exact p
    | ok lo w2 =>
      rw [el] at p
      simp only [Out.bind] at p
      intro D2 H2 S2 s2
      refine hh C env w2 σ D2 H2 _ K S2 ?_
      cases eh : gh env w2 with
      | bad => rw [eh] at p; exact p.elim
      | exc c fs w3 => rw [eh] at p; exact p
      | ok hi w3 =>
        rw [eh] at p
        simp only [Out.bind] at p
        intro D3 H3 S3 s3
        have ra3 := ra.mono (s2.trans s3)
        have s := s1.trans (s2.trans s3)
        cases a with
        | str z =>
          cases ra3
          simp only [oSl] at p
          split at p
          · rename_i r hr
            split at hr
            · rename_i hz
              cases hr
              exact .inl ⟨z, rfl, hz, p _ D3 H3 S3 s (.str _)⟩
            · cases hr
          · exact p.elim
        | lst xs =>
          cases ra3 with
          | lst h r =>
            simp only [oSl] at p
            exact .inr (.inl ⟨_, _, rfl, SqL.of (S3.up _ _ h), fun q hq => p _ _ _ (S3.ex (Ex.new S3.up hq)) (s.trans (Ex.new (o := .lst (cutV _ lo hi)) S3.up hq).sub) (.lst upd_same ((cutG_rp r lo hi).mono (Ex.new (o := .lst (cutV _ lo hi)) S3.up hq).sub))⟩)
        | tup xs =>
          cases ra3 with
          | tup h r =>
            simp only [oSl] at p
            split at p
            · rename_i r' hr
              split at hr
              · cases hr
              · rename_i hne
                cases hr
                rw [← K.K]
                exact .inr (.inr ⟨_, _, rfl, tupS S3.up h, by rw [r.length]; exact hne, fun q hq => p _ _ _ (S3.ex (Ex.new S3.up hq)) (s.trans (Ex.new (o := .tup (cutV _ lo hi)) S3.up hq).sub) (.tup upd_same ((cutG_rp r lo hi).mono (Ex.new (o := .tup (cutV _ lo hi)) S3.up hq).sub))⟩)
            · exact p.elim
        | _ => exact p.elim
theorem de_sl {a : Expr} {lo hi : Option Expr} {p2 pos : PySem.Pos} {ga : GE} {gl gh : GO} (ha : DE F a ga) (hl : DO F lo gl) (hh : DO F hi gh) : DE F (.Subscript a (.Slice lo hi none p2) pos) (gSl ga gl gh) := by
  obtain ⟨ta, a1, a2⟩ := ha.ex
  obtain ⟨tl, l1, l2⟩ := hl.ex
  obtain ⟨th, h1, h2⟩ := hh.ex
  exact ⟨⟨fun W => tSl (rSlA F.K) (ta W) (tl W) (th W), fun X W O T => pe_slice (by rw [← O.K]; exact sl_str.or (sl_list.or sl_tup)) (a1 X W O T) (l1 X W O T) (h1 X W O T), fun W => den_sl (a2 W) (l2 W) (h2 W)⟩⟩
/-! ### built-ins by name -/
theorem de_callB {x : Str} {id : String} {r : List V → Hp → VK → Prop} {f : List Dt → Option Dt} {p pos : PySem.Pos} {e : Expr} {es : List Expr} {ga : GA} (hc : ∀ X, On F X → CallR X (.builtin id) r) (hp : ∀ k : Kp, k.K = F.K → k.cls = F.cls → PosN k r f)
    (hv : bootBuiltins x = some (.builtin id)) (hg : F.sc.names.lookup x = some .globalImplicit) (hm : F.mg x = none) (h : DL F (e :: es) ga) (hn : x ≠ "__name__" := by decide +kernel) (hdb : (x == ("__debug__" : Str)) = false := by decide +kernel)
    (hs : ∀ env, starEach (e :: es) env = (false, eval e env) :: starEach es env := by intro _; rfl) (hpl : ∀ env, (backTo pos (starEach es env)).any (·.1) = false := by intro _; rfl) :
    DE F (.Call (.Name x p) (e :: es) [] pos) (gArgs f ga) := by
  obtain ⟨t, a1, a2⟩ := h.ex
  exact ⟨⟨fun W => tCB r (t W), fun X W O T => pe_callB (hc X O) (by show X.env.scope.names.lookup x = _; rw [O.sc]; exact hg) (by rw [O.mg]; exact hm) hv (a1 X W O T) hn hdb (hs _) (hpl _), fun W => den_args (a2 W) hp⟩⟩
theorem df_callB {x : Str} {id : String} {r : List V → Hp → VK → Prop} {f : List Dt → Option Ow} {p pos : PySem.Pos} {e : Expr} {es : List Expr} {ga : GA} (hc : ∀ X, On F X → CallR X (.builtin id) r) (hp : ∀ k : Kp, k.K = F.K → k.cls = F.cls → NewN k r f)
    (hv : bootBuiltins x = some (.builtin id)) (hg : F.sc.names.lookup x = some .globalImplicit) (hm : F.mg x = none) (h : DL F (e :: es) ga) (hn : x ≠ "__name__" := by decide +kernel) (hdb : (x == ("__debug__" : Str)) = false := by decide +kernel)
    (hs : ∀ env, starEach (e :: es) env = (false, eval e env) :: starEach es env := by intro _; rfl) (hpl : ∀ env, (backTo pos (starEach es env)).any (·.1) = false := by intro _; rfl) :
    DF F (.Call (.Name x p) (e :: es) [] pos) (gArgsF f ga) := by
  obtain ⟨t, a1, a2⟩ := h.ex
  exact ⟨⟨fun W => tCB r (t W), fun X W O T => pe_callB (hc X O) (by show X.env.scope.names.lookup x = _; rw [O.sc]; exact hg) (by rw [O.mg]; exact hm) hv (a1 X W O T) hn hdb (hs _) (hpl _), fun W => den_argsF (a2 W) hp⟩⟩
theorem de_callT {x : Str} {T : String} {r : List V → Hp → VK → Prop} {f : List Dt → Option Dt} {p pos : PySem.Pos} {e : Expr} {es : List Expr} {ga : GA} (hc : ∀ X, On F X → CallR X (.type T) r) (hp : ∀ k : Kp, k.K = F.K → k.cls = F.cls → PosN k r f)
    (hv : bootBuiltins x = some (.type T)) (hg : F.sc.names.lookup x = some .globalImplicit) (hm : F.mg x = none) (h : DL F (e :: es) ga) (hn : x ≠ "__name__" := by decide +kernel) (hdb : (x == ("__debug__" : Str)) = false := by decide +kernel)
    (hs : ∀ env, starEach (e :: es) env = (false, eval e env) :: starEach es env := by intro _; rfl) (hpl : ∀ env, (backTo pos (starEach es env)).any (·.1) = false := by intro _; rfl) :
    DE F (.Call (.Name x p) (e :: es) [] pos) (gArgs f ga) := by
  obtain ⟨t, a1, a2⟩ := h.ex
  exact ⟨⟨fun W => tCB r (t W), fun X W O T => pe_callTy (hc X O) (by show X.env.scope.names.lookup x = _; rw [O.sc]; exact hg) (by rw [O.mg]; exact hm) hv (a1 X W O T) hn hdb (hs _) (hpl _), fun W => den_args (a2 W) hp⟩⟩
theorem df_callT {x : Str} {T : String} {r : List V → Hp → VK → Prop} {f : List Dt → Option Ow} {p pos : PySem.Pos} {e : Expr} {es : List Expr} {ga : GA} (hc : ∀ X, On F X → CallR X (.type T) r) (hp : ∀ k : Kp, k.K = F.K → k.cls = F.cls → NewN k r f)
    (hv : bootBuiltins x = some (.type T)) (hg : F.sc.names.lookup x = some .globalImplicit) (hm : F.mg x = none) (h : DL F (e :: es) ga) (hn : x ≠ "__name__" := by decide +kernel) (hdb : (x == ("__debug__" : Str)) = false := by decide +kernel)
    (hs : ∀ env, starEach (e :: es) env = (false, eval e env) :: starEach es env := by intro _; rfl) (hpl : ∀ env, (backTo pos (starEach es env)).any (·.1) = false := by intro _; rfl) :
    DF F (.Call (.Name x p) (e :: es) [] pos) (gArgsF f ga) := by
  obtain ⟨t, a1, a2⟩ := h.ex
  exact ⟨⟨fun W => tCB r (t W), fun X W O T => pe_callTy (hc X O) (by show X.env.scope.names.lookup x = _; rw [O.sc]; exact hg) (by rw [O.mg]; exact hm) hv (a1 X W O T) hn hdb (hs _) (hpl _), fun W => den_argsF (a2 W) hp⟩⟩
/-- len -/
def oLen : List Dt → Option Dt
  | [.str z] => if z.length ≤ sizeLine then some (.int (z.length : Int)) else none
  | [.lst xs] => some (.int (xs.length : Int))
  | [.tup xs] => some (.int (xs.length : Int))
  | [.scr ns] => some (.int (ns.length : Int))
  | _ => none
theorem pos_len {k : Kp} : PosN k (fun xs H Q => ∃ x n, xs = [x] ∧ LenV k.K x H n ∧ Q (.int n) H) oLen := by
  intro D H xs as z u r e Q q
  match as, r, e with
  | [.str y], .cons (.str _) .nil, e =>
    simp only [oLen] at e
    split at e
    · rename_i hz
      cases e
      exact ⟨_, _, rfl, ⟨hz, rfl⟩, q _ D H (Ex.refl u) (.int _)⟩
    · cases e
  | [.tup ds], .cons (.tup h1 r1) .nil, e =>
    cases e
    exact ⟨_, _, rfl, .inr ⟨_, tupS u h1, rfl⟩, by rw [r1.length]; exact q _ D H (Ex.refl u) (.int _)⟩
  | [.lst ds], .cons (.lst h1 r1) .nil, e =>
    cases e
    exact ⟨_, _, rfl, .inl ⟨_, SqL.of (u _ _ h1), rfl⟩, by rw [r1.length]; exact q _ D H (Ex.refl u) (.int _)⟩
  | [.scr ns], .cons (.scr h1) .nil, e =>
    cases e
    exact ⟨_, _, rfl, .inl ⟨_, sqL_sub u h1, rfl⟩, by rw [List.length_map]; exact q _ D H (Ex.refl u) (.int _)⟩
theorem de_len {p pos : PySem.Pos} {e : Expr} {ga : GA} (hg : F.sc.names.lookup ("len" : Str) = some .globalImplicit) (hm : F.mg "len" = none) (h : DL F [e] ga) (hs : ∀ env, starEach [e] env = (false, eval e env) :: starEach [] env := by intro _; rfl) :
    DE F (.Call (.Name "len" p) [e] [] pos) (gArgs oLen ga) :=
  de_callB (r := fun xs H Q => ∃ x n, xs = [x] ∧ LenV F.K x H n ∧ Q (.int n) H) (fun X O => by rw [← O.K]; exact call_len) (fun k hK _ => by rw [← hK]; exact pos_len) PySem.boot_len hg hm h (by decide +kernel) (by decide +kernel) hs
/-- any, all -/
def blsOf : List Dt → Option (List Bool)
  | [] => some []
  | .bl b :: r => (blsOf r).map (b :: ·)
  | _ => none
theorem bls_rp {k : Kp} {D : Hp} : ∀ {ds : List Dt} {vs : List V} {bs : List Bool}, RpL k D vs ds → blsOf ds = some bs → vs = bs.map V.bl
  | [], _, _, .nil, e => by cases e; rfl
  | d :: ds, _, _, .cons h r, e => by
    cases d <;> try (cases e; done)
    cases h
    unfold blsOf at e
    cases q : blsOf ds with
    | none => rw [q] at e; cases e
    | some bs =>
      rw [q] at e
      cases e
      rw [bls_rp r q, List.map_cons]
def oAny : List Dt → Option Dt
  | [.lst xs] => (blsOf xs).map fun bs => .bl (bs.any id)
  | _ => none
def oAll : List Dt → Option Dt
  | [.lst xs] => (blsOf xs).map fun bs => .bl (bs.all id)
  | _ => none
theorem pos_any {k : Kp} : PosN k (rAny k.K) oAny := by
  intro D H xs as z u r e Q q
  match as, r, e with
  | [.lst ds], .cons (.lst h1 r1) .nil, e =>
    simp only [oAny] at e
    cases eb : blsOf ds with
    | none => rw [eb] at e; cases e
    | some bs =>
      rw [eb] at e
      cases e
      exact ⟨_, bs, rfl, by rw [← bls_rp r1 eb]; exact SqL.of (u _ _ h1), q _ D H (Ex.refl u) (.bl _)⟩
theorem pos_all {k : Kp} : PosN k (rAll k.K) oAll := by
  intro D H xs as z u r e Q q
  match as, r, e with
  | [.lst ds], .cons (.lst h1 r1) .nil, e =>
    simp only [oAll] at e
    cases eb : blsOf ds with
    | none => rw [eb] at e; cases e
    | some bs =>
      rw [eb] at e
      cases e
      exact ⟨_, bs, rfl, by rw [← bls_rp r1 eb]; exact SqL.of (u _ _ h1), q _ D H (Ex.refl u) (.bl _)⟩
theorem de_any {p pos : PySem.Pos} {e : Expr} {ga : GA} (hc : F.calm = true) (hg : F.sc.names.lookup ("any" : Str) = some .globalImplicit) (hm : F.mg "any" = none) (h : DL F [e] ga) (hs : ∀ env, starEach [e] env = (false, eval e env) :: starEach [] env := by intro _; rfl) :
    DE F (.Call (.Name "any" p) [e] [] pos) (gArgs oAny ga) :=
  de_callB (r := rAny F.K) (fun X O => by rw [← O.K]; exact cr_any (O.calm hc)) (fun k hK _ => by rw [← hK]; exact pos_any) (by decide +kernel) hg hm h (by decide +kernel) (by decide +kernel) hs
theorem de_all {p pos : PySem.Pos} {e : Expr} {ga : GA} (hc : F.calm = true) (hg : F.sc.names.lookup ("all" : Str) = some .globalImplicit) (hm : F.mg "all" = none) (h : DL F [e] ga) (hs : ∀ env, starEach [e] env = (false, eval e env) :: starEach [] env := by intro _; rfl) :
    DE F (.Call (.Name "all" p) [e] [] pos) (gArgs oAll ga) :=
  de_callB (r := rAll F.K) (fun X O => by rw [← O.K]; exact cr_all (O.calm hc)) (fun k hK _ => by rw [← hK]; exact pos_all) (by decide +kernel) hg hm h (by decide +kernel) (by decide +kernel) hs
/-- abs, min, max of two, int -/
def oAbs : List Dt → Option Dt
  | [.int i] => some (.int (if i < 0 then -i else i))
  | _ => none
def oMin2 : List Dt → Option Dt
  | [.int i, .int j] => some (.int (if j < i then j else i))
  | _ => none
def oInt : List Dt → Option Dt
  | [.int i] => some (.int i)
  | [.bl b] => some (.int (if b then 1 else 0))
  | _ => none
theorem rp_ints : ∀ {k : Kp} {D : Hp} {vs : List V} {is : List Int}, RpL k D vs (is.map .int) → vs = is.map .int
  | _, _, _, [], .nil => rfl
  | _, _, _, i :: is, .cons (.int _) r => by rw [rp_ints r, List.map_cons]
theorem de_abs {p pos : PySem.Pos} {e : Expr} {ga : GA} (hg : F.sc.names.lookup ("abs" : Str) = some .globalImplicit) (hm : F.mg "abs" = none) (h : DL F [e] ga) (hs : ∀ env, starEach [e] env = (false, eval e env) :: starEach [] env := by intro _; rfl) :
    DE F (.Call (.Name "abs" p) [e] [] pos) (gArgs oAbs ga) :=
  de_callB (fun X O => call_abs) (fun k hK _ D H xs as z u r ee Q q => by
    match as, r, ee with
    | [.int i], r, ee =>
      cases ee
      rw [rp_ints (is := [i]) r]
      exact ⟨i, rfl, q _ D H (Ex.refl u) (.int _)⟩) (by decide +kernel) hg hm h (by decide +kernel) (by decide +kernel) hs
theorem de_min2 {p pos : PySem.Pos} {e1 e2 : Expr} {ga : GA} (hc : F.calm = true) (hg : F.sc.names.lookup ("min" : Str) = some .globalImplicit) (hm : F.mg "min" = none) (h : DL F [e1, e2] ga) (hs : ∀ env, starEach [e1, e2] env = (false, eval e1 env) :: starEach [e2] env := by intro _; rfl) (hpl : ∀ env, (backTo pos (starEach [e2] env)).any (·.1) = false := by intro _; rfl) :
    DE F (.Call (.Name "min" p) [e1, e2] [] pos) (gArgs oMin2 ga) :=
  de_callB (fun X O => call_min2 (O.calm hc)) (fun k hK _ D H xs as z u r ee Q q => by
    match as, r, ee with
    | [.int i, .int j], r, ee =>
      cases ee
      rw [rp_ints (is := [i, j]) r]
      exact ⟨i, j, rfl, q _ D H (Ex.refl u) (.int _)⟩) (by decide +kernel) hg hm h (by decide +kernel) (by decide +kernel) hs hpl
theorem de_int1 {p pos : PySem.Pos} {e : Expr} {ga : GA} (hg : F.sc.names.lookup ("int" : Str) = some .globalImplicit) (hm : F.mg "int" = none) (h : DL F [e] ga) (hs : ∀ env, starEach [e] env = (false, eval e env) :: starEach [] env := by intro _; rfl) :
    DE F (.Call (.Name "int" p) [e] [] pos) (gArgs oInt ga) :=
  de_callT (fun X O => call_int1) (fun k hK _ D H xs as z u r ee Q q => by
    match as, r, ee with
    | [.int i], r, ee =>
      cases ee
      rw [rp_ints (is := [i]) r]
      exact .inl ⟨i, rfl, q _ D H (Ex.refl u) (.int _)⟩
    | [.bl b], .cons (.bl _) .nil, ee =>
      cases ee
      exact .inr ⟨b, rfl, q _ D H (Ex.refl u) (.int _)⟩) (by decide +kernel) hg hm h (by decide +kernel) (by decide +kernel) hs
/-- list(x), tuple(x) of lists and tuples -/
def oList : List Dt → Option Ow
  | [.lst xs] => some (.lst xs)
  | [.tup xs] => some (.lst xs)
  | [.scr ns] => some (.lst (ns.map .int))
  | _ => none
def oTuple : List Dt → Option Dt
  | [.lst xs] => some (.tup xs)
  | [.tup xs] => some (.tup xs)
  | _ => none
theorem rpl_ints {k : Kp} {D : Hp} : ∀ ns : List Int, RpL k D (ns.map V.int) (ns.map Dt.int)
  | [] => .nil
  | n :: ns => .cons (.int n) (rpl_ints ns)
theorem own_new {k : Kp} {D H : Hp} {p : Addr} {vs : List V} {ds : List Dt} (r : RpL k D vs ds) : ∀ C : Ct, C.k = k → OwnAt C D (upd H p (.lst vs)) p (.lst ds) [p] := fun C e => ⟨rfl, vs, upd_same, by rw [e]; exact r⟩
theorem one_new {D H : Hp} {p : Addr} (u : Sub D H) (hp : H p = none) : ∀ q ∈ [p], H q = none ∧ D q = none := fun q hq => by rw [List.mem_singleton.mp hq]; exact ⟨hp, none_of u hp⟩
theorem df_list {p pos : PySem.Pos} {e : Expr} {ga : GA} (hg : F.sc.names.lookup ("list" : Str) = some .globalImplicit) (hm : F.mg "list" = none) (h : DL F [e] ga) (hs : ∀ env, starEach [e] env = (false, eval e env) :: starEach [] env := by intro _; rfl) :
    DF F (.Call (.Name "list" p) [e] [] pos) (gArgsF oList ga) :=
  df_callT (r := fun xs H Q => ∃ p ys, xs = [.ref p] ∧ (SqL F.K H p ys ∨ SqT F.K H p ys) ∧ ∀ l, H l = none → Q (.ref l) (upd H l (.lst ys))) (fun X O => by rw [← O.K]; exact call_list_of) (fun k hK _ D H xs as z u r ee Q q => by
    match as, r, ee with
    | [.lst ds], .cons (.lst h1 r1) .nil, ee =>
      cases ee
      exact ⟨_, _, rfl, .inl (SqL.of (u _ _ h1)), fun l hl => q l D _ [l] (Ex.hid u hl) (own_new r1) (by simp) (one_new u hl)⟩
    | [.tup ds], .cons (.tup h1 r1) .nil, ee =>
      cases ee
      rw [← hK]
      exact ⟨_, _, rfl, .inr (tupS u h1), fun l hl => q l D _ [l] (Ex.hid u hl) (own_new r1) (by simp) (one_new u hl)⟩
    | [.scr ns], .cons (.scr h1) .nil, ee =>
      cases ee
      rw [← hK]
      exact ⟨_, _, rfl, .inl (sqL_sub u h1), fun l hl => q l D _ [l] (Ex.hid u hl) (own_new (rpl_ints ns)) (by simp) (one_new u hl)⟩) (by decide +kernel) hg hm h (by decide +kernel) (by decide +kernel) hs
theorem de_tuple {p pos : PySem.Pos} {e : Expr} {ga : GA} (hg : F.sc.names.lookup ("tuple" : Str) = some .globalImplicit) (hm : F.mg "tuple" = none) (h : DL F [e] ga) (hs : ∀ env, starEach [e] env = (false, eval e env) :: starEach [] env := by intro _; rfl) :
    DE F (.Call (.Name "tuple" p) [e] [] pos) (gArgs oTuple ga) :=
  de_callT (r := fun xs H Q => ∃ p ys, xs = [.ref p] ∧ ((SqL F.K H p ys ∧ ∀ l, H l = none → Q (.ref l) (upd H l (.tup ys))) ∨ (SqT F.K H p ys ∧ Q (.ref p) H))) (fun X O => by rw [← O.K]; exact call_tuple_of) (fun k hK _ D H xs as z u r ee Q q => by
    match as, r, ee with
    | [.lst ds], .cons (.lst h1 r1) .nil, ee =>
      cases ee
      exact ⟨_, _, rfl, .inl ⟨SqL.of (u _ _ h1), fun l hl => q _ _ _ (Ex.new u hl) (.tup upd_same (r1.mono (Ex.new (o := .tup _) u hl).sub))⟩⟩
    | [.tup ds], .cons (.tup h1 r1) .nil, ee =>
      cases ee
      rw [← hK]
      exact ⟨_, _, rfl, .inr ⟨tupS u h1, q _ D H (Ex.refl u) (.tup h1 r1)⟩⟩) (by decide +kernel) hg hm h (by decide +kernel) (by decide +kernel) hs
end
end Dn
end
section
/-! zip(.., strict=True) of two or three lists, tuples, texts: begun, walked, its rule. -/
namespace Zs
open PySem PySem.Spec PyProof.Rows L2
open Sem (wp)
theorem F.typeCall2 (a1 a2 : Value) : checkTypeCall "zip" ⟨[a1, a2], [(Str.ofString "strict", .bool true)]⟩ = pure () := by kernel_rfl
theorem F.newCall2 (a1 a2 : Value) : checkBuiltinCall "zip.__new__" ⟨[.type "zip", a1, a2], [(Str.ofString "strict", .bool true)]⟩ = pure () := by kernel_rfl
theorem F.initArgs2 (obj a1 a2 : Value) : argsOk "object.__init__" ⟨[obj, a1, a2], [(Str.ofString "strict", .bool true)]⟩ := by unfold argsOk; kernel_rfl
abbrev sZ2 (h : Heap) (o1 o2 : Obj) : Heap := (gzO2 h o1 o2).push { cls := .type "zip", data := .fields #[.none, .bool false, .bool true, .ref ((h.push o1).push o2).objs.size, .ref (gzT2 h o1 o2).objs.size] }
theorem meets_zipS2 {v1 v2 : Value} {o1 o2 : Obj} {H1 H2 : Heap → Prop} (B1 : Begins v1 o1 H1) (B2 : Begins v2 o2 H2) :
    Meets (Builtin.«zip.__new__» ⟨[.type "zip", v1, v2], [(Str.ofString "strict", .bool true)]⟩) (fun _ R s => (H1 s.heap ∧ H2 s.heap) ∧
      R (.ok (.ret (.ref (gzO2 s.heap o1 o2).objs.size))) { s with heap := sZ2 s.heap o1 o2 }) :=
  .of_wp fun prog w A R s h => by
    obtain ⟨hp, g, d, tk, os⟩ := s; obtain ⟨⟨h1, h2⟩, h⟩ := h
    have hsub := sub_zip
    have q1 : ∀ {A' : Around} {E : Value → Shared → Prop} {Q : Value → Shared → Prop}, Q (.ref hp.objs.size) ⟨(hp.push o1), g, d, tk, os⟩ → wpAny (model prog w) A' (pyIter v1) Q E ⟨hp, g, d, tk, os⟩ :=
      fun q => B1.iter prog w _ _ ⟨hp, g, d, tk, os⟩ _ (B1.keeps _ _ h1 fun b o' e => e) q
    have q2 : ∀ {A' : Around} {E : Value → Shared → Prop} {Q : Value → Shared → Prop}, Q (.ref (hp.push o1).objs.size) ⟨((hp.push o1).push o2), g, d, tk, os⟩ → wpAny (model prog w) A' (pyIter v2) Q E ⟨(hp.push o1), g, d, tk, os⟩ :=
      fun q => B2.iter prog w _ _ ⟨(hp.push o1), g, d, tk, os⟩ _ (B2.keeps _ _ h2 fun b o' e => (Heap.get?_push_of_some _ e)) q
    have e1 : (Str.ofString "strict" == ("strict" : Str)) = true := by decide +kernel
    have e2 : (Str.ofString "strict" != ("strict" : Str)) = false := by decide +kernel
    wp_walk using q1, q2
    exact ⟨_, rfl, h⟩
section
variable {prog : Program} {w : World} {A : Around} {E : Value → Shared → Prop} {s : Shared}
theorem begins2 {v1 v2 : Value} {o1 o2 : Obj} {H1 H2 : Heap → Prop} {Q : Value → Shared → Prop} (B1 : Begins v1 o1 H1) (B2 : Begins v2 o2 H2) (h1 : H1 s.heap) (h2 : H2 s.heap)
    (h : ∀ h', ZipAt h' (s.heap.objs.size + 4) (s.heap.objs.size + 2) (s.heap.objs.size + 3) .none → Tp2 h' (s.heap.objs.size + 2) (.ref s.heap.objs.size) (.ref (s.heap.objs.size + 1)) →
      Tp2 h' (s.heap.objs.size + 3) .none .none → h'.get? s.heap.objs.size = some o1 → h'.get? (s.heap.objs.size + 1) = some o2 → h'.objs.size = s.heap.objs.size + 5 →
      (∀ c o, s.heap.get? c = some o → h'.get? c = some o) → Q (.ref (s.heap.objs.size + 4)) { s with heap := h' }) :
    wpAny (model prog w) A (call (.type "zip") [v1, v2] [(Str.ofString "strict", .bool true)]) Q E s := by
  refine callType_newKw PySem.F.called_zip (by decide) (F.typeCall2 _ _) (F.newCall2 _ _) (fun obj => F.initArgs2 obj _ _) PySem.F.entry_zip_new
    (meets_zipS2 B1 B2) ⟨⟨h1, h2⟩, ?_⟩
  have z1 : (s.heap.push o1).objs.size = s.heap.objs.size + 1 := by rw [Heap.size_push]
  have z2 : ((s.heap.push o1).push o2).objs.size = s.heap.objs.size + 2 := by rw [Heap.size_push, z1]
  have zT : (gzT2 s.heap o1 o2).objs.size = s.heap.objs.size + 3 := by rw [Heap.size_push, z2]
  have zO : (gzO2 s.heap o1 o2).objs.size = s.heap.objs.size + 4 := by rw [Heap.size_push, zT]
  have zZ : (sZ2 s.heap o1 o2).objs.size = s.heap.objs.size + 5 := by rw [Heap.size_push, zO]
  have gZ : (sZ2 s.heap o1 o2).get? (gzO2 s.heap o1 o2).objs.size = some { cls := .type "zip", data := .fields #[.none, .bool false, .bool true, .ref ((s.heap.push o1).push o2).objs.size, .ref (gzT2 s.heap o1 o2).objs.size] } := Heap.get?_push_size _ rfl
  have gO : (sZ2 s.heap o1 o2).get? (gzT2 s.heap o1 o2).objs.size = some { cls := .type "tuple", data := .seq #[.none, .none] } := Heap.get?_push_of_some _ (Heap.get?_push_size _ rfl)
  have gT : (sZ2 s.heap o1 o2).get? ((s.heap.push o1).push o2).objs.size = some { cls := .type "tuple", data := .seq #[.ref s.heap.objs.size, .ref (s.heap.push o1).objs.size] } := Heap.get?_push_of_some _ (Heap.get?_push_of_some _ (Heap.get?_push_size _ rfl))
  have g1 : (sZ2 s.heap o1 o2).get? s.heap.objs.size = some o1 := Heap.get?_push_of_some _ (Heap.get?_push_of_some _ (Heap.get?_push_of_some _ (Heap.get?_push_of_some _ (Heap.get?_push_size _ B1.free))))
  have g2 : (sZ2 s.heap o1 o2).get? (s.heap.push o1).objs.size = some o2 := Heap.get?_push_of_some _ (Heap.get?_push_of_some _ (Heap.get?_push_of_some _ (Heap.get?_push_size _ B2.free)))
  rw [zO, zT, z2] at gZ
  rw [zT] at gO
  rw [z2, z1] at gT
  rw [z1] at g2
  show _ ∧ _
  rw [zO]
  exact ⟨⟨_, gZ, rfl⟩, h _ gZ gT gO g1 g2 zZ fun c o e => Heap.get?_push_of_some _ (Heap.get?_push_of_some _ (Heap.get?_push_of_some _ (Heap.get?_push_of_some _ (Heap.get?_push_of_some _ e))))⟩
end
end Zs
end
section
namespace Zs
open PySem PySem.Spec PyProof.Rows L2
open Sem (wp)
/-! ### sources -/
inductive Src where
  | l (a : Addr)
  | t (a : Addr)
  | s (x : Str)
def Src.at : Src → Heap → Addr → Nat → Prop
  | .l a, h, it, i => h.IsListIter it a i
  | .t a, h, it, i => h.IsTupleIter it a i
  | .s x, h, it, i => ∃ k, h.IsStrIter it (strIterType x) x k i
def Src.fp : Src → List Addr
  | .l a => [a]
  | .t a => [a]
  | .s _ => []
def signV (x : Str) : List V := x.cps.toList.map fun c => V.str ⟨#[c]⟩
def Src.val (K : PySem.W.Frag) (H : Hp) : Src → List V → Prop
  | .l a, xs => SqL K H a xs
  | .t a, xs => SqT K H a xs
  | .s x, xs => xs = signV x
theorem Src.at.keep {S : Src} {h h' : Heap} {it : Addr} {i : Nat} (st : S.at h it i) (k : ∀ o, h.get? it = some o → h'.get? it = some o) : S.at h' it i := by
  cases S with
  | l a => exact Heap.IsListIter.at st k
  | t a => obtain ⟨o, ho, r⟩ := st; exact ⟨o, k o ho, r⟩
  | s x => obtain ⟨t, o, ho, r⟩ := st; exact ⟨t, o, k o ho, r⟩
theorem Src.at.obj {S : Src} {h : Heap} {it : Addr} {i : Nat} (st : S.at h it i) : ∃ o, h.get? it = some o ∧ ∀ v, o.data ≠ .cell v := by
  cases S with
  | l a => obtain ⟨o, e, _, d⟩ := st; exact ⟨o, e, fun v q => by rw [d] at q; cases q⟩
  | t a => obtain ⟨o, e, _, d⟩ := st; exact ⟨o, e, fun v q => by rw [d] at q; cases q⟩
  | s x => obtain ⟨_, o, e, _, d⟩ := st; exact ⟨o, e, fun v q => by rw [d] at q; cases q⟩
/-- what the source is as a value -/
def Src.is : Src → V → Prop
  | .l a, v => v = .ref a
  | .t a, v => v = .ref a
  | .s x, v => v = .str x
section
variable {X : Cx} {pins : List (Addr × Obj)} {σ : L2.St} {H : Hp} {s : Shared}
theorem paired_back {xs : List V} {its : List Value} (rv : Paired RelV xs its) {i : Nat} {v : Value} (e : its[i]? = some v) : ∃ x, xs[i]? = some x ∧ RelV x v := by
  have hl : i < xs.length := by
    have := List.getElem?_eq_some_iff.mp e
    rw [rv.length]; exact this.1
  obtain ⟨u, hu, r⟩ := L2.paired_get rv (List.getElem?_eq_getElem hl)
  rw [e] at hu
  cases hu
  exact ⟨_, List.getElem?_eq_getElem hl, r⟩
theorem src_draws {S : Src} {xs : List V} {it : Addr} {i : Nat} (hh : X.A.handled = none) (I : Inv X pins σ H s) (hv : S.val X.K H xs) (st : S.at s.heap it i) (hn : it ∉ S.fp) :
    ∃ (T : Nat → Heap → Prop) (Pv : Nat → Value → Prop), Draws X.prog X.w X.A.in1 it (it :: S.fp) xs.length Pv T ∧ T i s.heap ∧ (∀ i h, T i h → S.at h it i) ∧ ∀ i v, Pv i v → ∃ x, xs[i]? = some x ∧ RelV x v := by
  cases S with
  | l a =>
    obtain ⟨its, rv, p, _⟩ := I.list hv
    refine ⟨fun i h => h.IsListIter it a i ∧ h.IsList a its.toArray, fun i v => its.toArray[i]? = some v, (by rw [rv.length]; exact Draws.list (A := X.A.in1) hh it a (fun e => hn (by rw [← e]; exact List.mem_singleton.mpr rfl)) its.toArray), ⟨st, p.isList⟩, fun i h t => t.1, fun i v e => ?_⟩
    have e' : its[i]? = some v := by simpa using e
    exact paired_back rv e'
  | t a =>
    obtain ⟨its, rv, p, _⟩ := I.tuple hv
    refine ⟨fun i h => h.IsTupleIter it a i ∧ h.IsTuple a its.toArray, fun i v => its.toArray[i]? = some v, (by rw [rv.length]; exact Draws.tuple (A := X.A.in1) hh it a (fun e => hn (by rw [← e]; exact List.mem_singleton.mpr rfl)) its.toArray), ⟨st, p⟩, fun i h t => t.1, fun i v e => ?_⟩
    have e' : its[i]? = some v := by simpa using e
    exact paired_back rv e'
  | s x =>
    obtain ⟨t, st⟩ := st
    cases hv
    refine ⟨_, _, (by
      have e : (signV x).length = x.cps.size := by unfold signV; simp
      rw [e]
      exact Draws.text (A := X.A.in1) hh it x t), st, fun i h q => ⟨t, q⟩, fun i v e => ?_⟩
    obtain ⟨c, u, hc, rfl⟩ := e
    exact ⟨.str ⟨#[c]⟩, by unfold signV; simp [hc], u, rfl⟩
/-- its iterator -/
theorem src_begins {S : Src} {v : V} {u : Value} {xs : List V} (I : Inv X pins σ H s) (hs : S.is v) (r : RelV v u) (hv : S.val X.K H xs) :
    ∃ (o : Obj) (G : Heap → Prop), Begins u o G ∧ G s.heap ∧ (∀ h it, h.get? it = some o → S.at h it 0) ∧ ∀ a ∈ S.fp, a < s.heap.objs.size := by
  cases S with
  | l a =>
    cases hs; cases r
    obtain ⟨its, rv, p, _⟩ := I.list hv
    exact ⟨_, _, begins_list a its.toArray, p.isList, fun h it e => ⟨_, e, rfl, rfl⟩, fun b hb => by rw [List.mem_singleton.mp hb]; exact p.lt⟩
  | t a =>
    cases hs; cases r
    obtain ⟨its, rv, p, _⟩ := I.tuple hv
    exact ⟨_, _, begins_tuple a its.toArray, p, fun h it e => ⟨_, e, rfl, rfl⟩, fun b hb => by rw [List.mem_singleton.mp hb]; exact p.lt⟩
  | s x =>
    cases hs
    obtain ⟨t, rfl⟩ := r
    exact ⟨_, _, begins_text x t, trivial, fun h it e => ⟨t, _, e, rfl, rfl⟩, fun b hb => nomatch hb⟩
theorem src_inj {S : Src} {xs ys : List V} (I : Inv X pins σ H s) (h1 : S.val X.K H xs) (h2 : S.val X.K H ys) : xs = ys := by
  cases S with
  | l a => exact I.list_inj h1 h2
  | t a => exact I.tuple_inj h1 h2
  | s x => rw [show xs = signV x from h1, show ys = signV x from h2]
end
def It2 (K : PySem.W.Frag) (S1 S2 : Src) : It :=
  ⟨fun i H => ∃ xs1 xs2 : List V, S1.val K H xs1 ∧ S2.val K H xs2 ∧ xs2.length = xs1.length ∧ i < xs1.length,
    fun i H v H' => ∃ T x1 x2, v = .ref T ∧ H T = none ∧ H' = upd H T (.tup [x1, x2]) ∧ (∀ xs, S1.val K H xs → xs[i]? = some x1) ∧ (∀ xs, S2.val K H xs → xs[i]? = some x2),
    fun i H => ∃ xs1 xs2 : List V, S1.val K H xs1 ∧ S2.val K H xs2 ∧ xs2.length = xs1.length ∧ i = xs1.length⟩
theorem pnext2_item {P : Program} {w : World} {A : Around} {E : Value → Shared → Prop} {s : Shared} {z TI TO i1 i2 : Addr} {f1 f2 : List Addr} {n i : Nat} {P1 : Nat → Value → Prop} {T1 : Nat → Heap → Prop} {P2 : Nat → Value → Prop} {T2 : Nat → Heap → Prop} {a1 a2 : Value} {Q : Option Value → Shared → Prop} (S : Sep2 z TI TO i1 i2 f1 f2) (D1 : Draws P w A.in1 i1 f1 n P1 T1) (D2 : Draws P w A.in1 i2 f2 n P2 T2)
    (hz : ZipAt s.heap z TI TO .none) (hI : Tp2 s.heap TI (.ref i1) (.ref i2)) (hO : Tp2 s.heap TO a1 a2) (t1 : T1 i s.heap) (t2 : T2 i s.heap) (hi : i < n)
    (hQ : ∀ x1 x2 hp tk, P1 i x1 → P2 i x2 → ZipAt hp z TI TO (rawInt s.heap.objs.size) → Tp2 hp TI (.ref i1) (.ref i2) → Tp2 hp TO x1 x2 → T1 (i + 1) hp → T2 (i + 1) hp → Tp2 hp s.heap.objs.size x1 x2 → hp.objs.size = s.heap.objs.size + 1 →
      (∀ c o, c ≠ z → c ≠ TO → c ≠ i1 → c ≠ i2 → s.heap.get? c = some o → hp.get? c = some o) → Q (some (.ref s.heap.objs.size)) { s with heap := hp, toks := tk }) :
    wpAny (model P w) A (pyNext (.ref z)) Q E s := by
  have hT : s.TypeIs (.ref z) "zip" := ⟨_, hz, rfl⟩
  unfold pyNext
  exact wpAny_bind (wpAny_attempt (wpAny_callSpecial?_slot (name := Str.ofString "__next__") hT PySem.F.slot_zip_next
    (wpAny_call_entry PySem.F.slot_zip_next hT PySem.F.entry_zip_next
      (zs2_item S D1 D2 hz hI hO t1 t2 hi fun x1 x2 hp tk p1 p2 q1 q2 q3 w1 w2 q4 q5 q6 => wpAny_pure (hQ x1 x2 hp tk p1 p2 q1 q2 q3 w1 w2 q4 q5 q6)) (PySem.F.args_zip_next_1 _))))
theorem pnext2_end {P : Program} {w : World} {A : Around} {E : Value → Shared → Prop} {s : Shared} {z TI TO i1 i2 : Addr} {f1 f2 : List Addr} {n i : Nat} {P1 : Nat → Value → Prop} {T1 : Nat → Heap → Prop} {P2 : Nat → Value → Prop} {T2 : Nat → Heap → Prop} {a1 a2 : Value} {Q : Option Value → Shared → Prop} (S : Sep2 z TI TO i1 i2 f1 f2) (D1 : Draws P w A.in1 i1 f1 n P1 T1) (D2 : Draws P w A.in1 i2 f2 n P2 T2) (hh : A.handled = none)
    (hz : ZipAt s.heap z TI TO .none) (hI : Tp2 s.heap TI (.ref i1) (.ref i2)) (hO : Tp2 s.heap TO a1 a2) (t1 : T1 i s.heap) (t2 : T2 i s.heap) (hi : i = n)
    (hQ : ∀ hp tk, (∀ c o, c ≠ z → c ≠ TO → c ≠ i1 → c ≠ i2 → s.heap.get? c = some o → hp.get? c = some o) → Q none { s with heap := hp, toks := tk }) :
    wpAny (model P w) A (pyNext (.ref z)) Q E s := by
  have hT : s.TypeIs (.ref z) "zip" := ⟨_, hz, rfl⟩
  unfold pyNext
  refine wpAny_bind (wpAny_attempt (wpAny_callSpecial?_slot (name := Str.ofString "__next__") hT PySem.F.slot_zip_next
    (wpAny_call_entry PySem.F.slot_zip_next hT PySem.F.entry_zip_next (zs2_end S D1 D2 hh hz hI hO t1 t2 hi fun hp tk e kp he => ?_) (PySem.F.args_zip_next_1 _))))
  obtain ⟨o, ho, hc⟩ := he
  refine wpAny_bind (wpAny_isInstance (T := "StopIteration") (b := true) ⟨o, ho, hc⟩ isSubtype_stop ?_)
  exact wpAny_pure (hQ _ _ kp)
theorem letGo {P : Program} {w : World} {A : Around} {E : Value → Shared → Prop} {s : Shared} {elts : List Expr} {x1} {pos : Pos} {z TI TO T : Addr} {Q : Unit → Shared → Prop} (hz : ZipAt s.heap z TI TO (rawInt T))
    (hQ : ∀ h', ZipAt h' z TI TO .none → Heap.SameBut z s.heap h' → Q () { s with heap := h' }) :
    wpAny (model P w) A (letOwnedTupleGo (.Tuple elts x1 pos) (.ref z) (.ref T)) Q E s := by
  unfold letOwnedTupleGo
  refine wpAny_bind (wpAny_load hz ?_)
  show wpAny _ _ (if (["enumerate", "zip", "dict_itemiterator", "dict_reverseitemiterator", "odict_iterator", "itertools.zip_longest", "itertools.pairwise"].contains "zip" &&
      (#[rawInt T, .bool false, .bool true, .ref TI, .ref TO] : Array Value)[0]? == some (rawInt T)) = true then _ else _) Q E s
  rw [if_pos (by simp)]
  refine wpAny_bind (wpAny_rule ?_)
  show wpAny _ _ (setField (.ref z) 0 .none) Q E s
  exact wpAny_setField_rec hz (by simp) fun h' hz' hs' => hQ h' hz' hs'
theorem iterSelf {P : Program} {w : World} {A : Around} {E : Value → Shared → Prop} {s : Shared} {z TI TO : Addr} {f0 : Value} {Q : Value → Shared → Prop} (hz : ZipAt s.heap z TI TO f0) (h : Q (.ref z) s) : wpAny (model P w) A (pyIter (.ref z)) Q E s := by
  have hT : s.TypeIs (.ref z) "zip" := ⟨_, hz, rfl⟩
  refine wpAny_pyIter_slot hT PySem.F.slot_zip_iter (wpAny_call_entry PySem.F.slot_zip_iter hT PySem.F.entry_zip_iter ?_ (PySem.F.args_zip_iter_1 _))
  show wpAny _ _ (ret (.ref z)) _ _ s
  exact wpAny_pure ⟨_, rfl, "zip", _, hT, PySem.F.slot_zip_next.lookup, h⟩
theorem turn2 {P : Program} {w : World} {K : PySem.W.Frag} {elts : List Expr} {kk : Nat} {tpos : Pos} {S1 S2 : Src} {z TI TO i1 i2 : Addr} (Sp : Sep2 z TI TO i1 i2 (i1 :: S1.fp) (i2 :: S2.fp)) (n1 : i1 ∉ S1.fp) (n2 : i2 ∉ S2.fp) :
    Turn P w K (.Tuple elts kk tpos) (It2 K S1 S2) [z, TI, TO, i1, i2] z (fun i h => ZipAt h z TI TO .none ∧ Tp2 h TI (.ref i1) (.ref i2) ∧ (∃ a1 a2, Tp2 h TO a1 a2) ∧ S1.at h i1 i ∧ S2.at h i2 i) where
  mem := by simp
  obj := fun i h st c hc => by
    obtain ⟨hz, hTI, ⟨a1, a2, hTO⟩, t1, t2⟩ := st
    have e' : c = z ∨ c = TI ∨ c = TO ∨ c = i1 ∨ c = i2 := by simpa using hc
    rcases e' with q | q | q | q | q
    · rw [q]; exact ⟨_, hz, fun v q => nomatch q⟩
    · rw [q]; exact ⟨_, hTI, fun v q => nomatch q⟩
    · rw [q]; exact ⟨_, hTO, fun v q => nomatch q⟩
    · rw [q]; exact t1.obj
    · rw [q]; exact t2.obj
  keep := fun i h h' st k => by
    obtain ⟨hz, hTI, ⟨a1, a2, hTO⟩, t1, t2⟩ := st
    exact ⟨k z (by simp) _ hz, k TI (by simp) _ hTI, ⟨a1, a2, k TO (by simp) _ hTO⟩, t1.keep fun o q => k i1 (by simp) o q, t2.keep fun o q => k i2 (by simp) o q⟩
  item := by
    intro X hP hw hK hc i pins s σ H E I hf st hg
    subst hP hw hK
    obtain ⟨hz, hTI, ⟨a1, a2, hTO⟩, t1, t2⟩ := st
    obtain ⟨xs1, xs2, v1, v2, l2, hi⟩ := hg
    obtain ⟨T1, P1, D1, s1, b1, r1⟩ := src_draws (I.ok.hd hc) I v1 t1 n1
    obtain ⟨T2, P2, D2, s2, b2, r2⟩ := src_draws (I.ok.hd hc) I v2 t2 n2
    rw [l2] at D2
    have hzl : z < s.heap.objs.size := Heap.lt_size hz
    refine pnext2_item Sp D1 D2 hz hTI hTO s1 s2 hi fun u1 u2 hp tk p1 p2 z' TI' TO' t1' t2' hT hsz hk => ?_
    obtain ⟨x1, e1, g1⟩ := r1 i u1 p1
    obtain ⟨x2, e2, g2⟩ := r2 i u2 p2
    refine ⟨_, rfl, letGo (s := { s with heap := hp, toks := tk }) z' fun h'' z'' sb => ?_⟩
    have hT2 : h''.get? s.heap.objs.size = some { cls := .type "tuple", data := .seq #[u1, u2] } := (sb.2 _ (Nat.ne_of_gt hzl)).trans hT
    have new : ObjOk X.prog X.w (upd H s.heap.objs.size (.tup [x1, x2])) h'' s.heap.objs.size (.tup [x1, x2]) :=
      ⟨by show 2 ≤ sizeLine; decide, [u1, u2], .cons g1 (.cons g2 .nil), ⟨_, hT2, rfl, _, rfl⟩⟩
    have I1 : Inv X pins σ (upd H s.heap.objs.size (.tup [x1, x2])) { heap := h'', gens := s.gens, drawn := s.drawn, toks := tk, os := s.os } :=
      I.turnedNew (t' := tk) (ch := [z, TI, TO, i1, i2]) (fun c o hb q => (sb.2 c (fun q' => hb (by simp [q']))).trans (hk c o (fun q' => hb (by simp [q'])) (fun q' => hb (by simp [q'])) (fun q' => hb (by simp [q'])) (fun q' => hb (by simp [q'])) q)) hf (Nat.le_refl _) new
    refine ⟨.ref s.heap.objs.size, _, I1, rfl, ⟨_, x1, x2, rfl, I.hok.fresh (Nat.le_refl _), rfl, fun l hl => by rw [src_inj I hl v1]; exact e1, fun l hl => by rw [src_inj I hl v2]; exact e2⟩, ⟨z'', ?_, ⟨u1, u2, ?_⟩, ?_, ?_⟩, fun c hcm => ?_⟩
    · exact (sb.2 _ Sp.zT.symm).trans TI'
    · exact (sb.2 _ Sp.zO.symm).trans TO'
    · exact (b1 _ _ t1').keep fun o q => (sb.2 _ Sp.zi1.symm).trans q
    · exact (b2 _ _ t2').keep fun o q => (sb.2 _ Sp.zi2.symm).trans q
    · have hlt : c < s.heap.objs.size := by
        have e' : c = z ∨ c = TI ∨ c = TO ∨ c = i1 ∨ c = i2 := by simpa using hcm
        rcases e' with q | q | q | q | q
        · rw [q]; exact hzl
        · rw [q]; exact Heap.lt_size hTI
        · rw [q]; exact Heap.lt_size hTO
        · rw [q]; obtain ⟨_, e1, _⟩ := t1.obj; exact Heap.lt_size e1
        · rw [q]; obtain ⟨_, e1, _⟩ := t2.obj; exact Heap.lt_size e1
      rw [upd_ne (Nat.ne_of_lt hlt)]
      exact (hf c hcm).1
  done := by
    intro X hP hw hK hc i pins s σ H E I hf st hg
    subst hP hw hK
    obtain ⟨hz, hTI, ⟨a1, a2, hTO⟩, t1, t2⟩ := st
    obtain ⟨xs1, xs2, v1, v2, l2, hi⟩ := hg
    obtain ⟨T1, P1, D1, s1, b1, r1⟩ := src_draws (I.ok.hd hc) I v1 t1 n1
    obtain ⟨T2, P2, D2, s2, b2, r2⟩ := src_draws (I.ok.hd hc) I v2 t2 n2
    rw [l2] at D2
    exact pnext2_end Sp D1 D2 (I.ok.hd hc) hz hTI hTO s1 s2 hi fun hp tk hk => ⟨rfl, I.turnedL (t' := tk) (ch := [z, TI, TO, i1, i2]) (fun c o hb q =>
      hk c o (fun q' => hb (by simp [q'])) (fun q' => hb (by simp [q'])) (fun q' => hb (by simp [q'])) (fun q' => hb (by simp [q'])) q) hf⟩
  self := fun A i s Q E st h => iterSelf st.1 h
end Zs
end
section
/-! enumerate over lists, tuples, texts; the iterations as PI. -/
namespace Zs
open PySem PySem.Spec PyProof.Rows L2
open Sem (wp)
theorem meets_enum1 {v : Value} {o : Obj} {H : Heap → Prop} (B : Begins v o H) :
    Meets (Builtin.«enumerate.__new__» ⟨[.type "enumerate", v], []⟩) (fun _ R s => H s.heap ∧
      R (.ok (.ret (.ref (s.heap.push o).objs.size))) { s with heap := (s.heap.push o).push { cls := .type "enumerate", data := .fields #[.none, .bool false, .ref s.heap.objs.size, rawInt 0, .none, .none] } }) :=
  .of_wp fun prog w A R s h => by
    obtain ⟨hp, g, d, tk, os⟩ := s; obtain ⟨h1, h⟩ := h
    have hsub := sub_enumerate
    have q1 : ∀ {A' : Around} {E : Value → Shared → Prop} {Q : Value → Shared → Prop}, Q (.ref hp.objs.size) ⟨hp.push o, g, d, tk, os⟩ → wpAny (model prog w) A' (pyIter v) Q E ⟨hp, g, d, tk, os⟩ :=
      fun q => B.iter prog w _ _ ⟨hp, g, d, tk, os⟩ _ h1 q
    wp_walk using q1
    refine wpAny_stack_any fun st => wpAny_pure ?_
    split
    · rename_i c _ _ _ _ _
      cases (c == Value.type "enumerate")
      · wp_walk using q1
        exact ⟨_, rfl, h⟩
      · wp_walk using q1
        exact ⟨_, rfl, h⟩
    · wp_walk using q1
      exact ⟨_, rfl, h⟩
section
variable {prog : Program} {w : World} {A : Around} {E : Value → Shared → Prop} {s : Shared}
theorem enum_begins1 {v : Value} {o : Obj} {H : Heap → Prop} {Q : Value → Shared → Prop} (B : Begins v o H) (h1 : H s.heap)
    (h : ∀ h', IsEnum h' (s.heap.objs.size + 1) s.heap.objs.size 0 .none → h'.get? s.heap.objs.size = some o → h'.objs.size = s.heap.objs.size + 2 →
      (∀ b o, s.heap.get? b = some o → h'.get? b = some o) → Q (.ref (s.heap.objs.size + 1)) { s with heap := h' }) :
    wpAny (model prog w) A (call (.type "enumerate") [v]) Q E s := by
  refine callType_new PySem.F.called_enumerate (by decide) (PySem.F.typeCall_enumerate_1 _) (PySem.F.newCall_enumerate_1 _) (fun obj => PySem.F.args_object_init_2 obj _) PySem.F.entry_enumerate_new
    (meets_enum1 B) ⟨h1, ?_⟩
  have hz : (s.heap.push o).objs.size = s.heap.objs.size + 1 := Heap.size_push ..
  show _ ∧ _
  rw [hz]
  have he : IsEnum ((s.heap.push o).push { cls := .type "enumerate", data := .fields #[.none, .bool false, .ref s.heap.objs.size, rawInt 0, .none, .none] }) (s.heap.objs.size + 1) s.heap.objs.size 0 .none := by
    have := Heap.get?_push_size (s.heap.push o) (o := { cls := .type "enumerate", data := .fields #[.none, .bool false, .ref s.heap.objs.size, rawInt 0, .none, .none] }) rfl
    rw [hz] at this; exact this
  refine ⟨⟨_, he, rfl⟩, h _ he (Heap.get?_push_of_some _ (Heap.get?_push_size _ B.free)) (by rw [Heap.size_push, hz]) fun b o x => Heap.get?_push_of_some _ (Heap.get?_push_of_some _ x)⟩
end
def ItN (K : PySem.W.Frag) (k : Int) (S : Src) : It :=
  ⟨fun i H => ∃ xs : List V, S.val K H xs ∧ i < xs.length,
    fun i H v H' => ∃ T x, v = .ref T ∧ H T = none ∧ H' = upd H T (.tup [.int (k + (i : Int)), x]) ∧ ∀ xs, S.val K H xs → xs[i]? = some x,
    fun i H => ∃ xs : List V, S.val K H xs ∧ i = xs.length⟩
theorem turnN {P : Program} {w : World} {K : PySem.W.Frag} {elts : List Expr} {kk : Nat} {tpos : Pos} {S : Src} {k : Int} {e it : Addr} (hne : e ≠ it) (n1 : it ∉ S.fp) (n2 : e ∉ S.fp) :
    Turn P w K (.Tuple elts kk tpos) (ItN K k S) [e, it] e (fun i h => (∃ old, IsEnum h e it (k + (i : Int)) old) ∧ S.at h it i) where
  mem := by simp
  obj := fun i h st b hb => by
    obtain ⟨⟨old, he⟩, t1⟩ := st
    have e' : b = e ∨ b = it := by simpa using hb
    rcases e' with z | z
    · rw [z]; exact ⟨_, he, fun v q => nomatch q⟩
    · rw [z]; exact t1.obj
  keep := fun i h h' st k => let ⟨⟨old, he⟩, t1⟩ := st; ⟨⟨old, k e (by simp) _ he⟩, t1.keep fun o q => k it (by simp) o q⟩
  item := by
    intro X hP hw hK hc i pins s σ H E I hf st hg
    subst hP hw hK
    obtain ⟨⟨old, he⟩, t1⟩ := st
    obtain ⟨xs, v1, hi⟩ := hg
    obtain ⟨T1, P1, D1, s1, b1, r1⟩ := src_draws (I.ok.hd hc) I v1 t1 n1
    have hel : e < s.heap.objs.size := Heap.lt_size he
    have hil : it < s.heap.objs.size := by obtain ⟨_, q, _⟩ := t1.obj; exact Heap.lt_size q
    refine wpAny_pyNext_enum_itemC D1 he s1 hi hne (fun q => (List.mem_cons.mp q).elim hne n2) fun u hp tk hP ho s1' hT hsz hk => ?_
    obtain ⟨x, ex, gx⟩ := r1 i u hP
    refine ⟨_, rfl, wpAny_letOwnedTupleGo_enum (s := { s with heap := hp, toks := tk + 1 }) ho fun h'' he' sb => ?_⟩
    have hT2 : h''.get? s.heap.objs.size = some { cls := .type "tuple", data := .seq #[.int (k + (i : Int)) tk, u] } := (sb.2 _ (Nat.ne_of_gt hel)).trans hT
    have new : ObjOk X.prog X.w (upd H s.heap.objs.size (.tup [.int (k + (i : Int)), x])) h'' s.heap.objs.size (.tup [.int (k + (i : Int)), x]) :=
      ⟨by show 2 ≤ sizeLine; decide, [.int (k + (i : Int)) tk, u], .cons ⟨_, rfl⟩ (.cons gx .nil), ⟨_, hT2, rfl, _, rfl⟩⟩
    have I1 : Inv X pins σ (upd H s.heap.objs.size (.tup [.int (k + (i : Int)), x])) { heap := h'', gens := s.gens, drawn := s.drawn, toks := tk + 1, os := s.os } :=
      I.turnedNew (t' := tk + 1) (ch := [e, it]) (fun b ob hb q => (sb.2 b (fun z => hb (by simp [z]))).trans (hk b ob (fun z => hb (by simp [z])) (fun z => hb (by simp [z])) q)) hf (Nat.le_refl _) new
    refine ⟨.ref s.heap.objs.size, _, I1, rfl, ⟨_, x, rfl, I.hok.fresh (Nat.le_refl _), rfl, fun l hl => by rw [src_inj I hl v1]; exact ex⟩, ⟨⟨u, ?_⟩, (b1 _ _ s1').keep fun o q => (sb.2 it (Ne.symm hne)).trans q⟩, fun b hb => ?_⟩
    · have e1 : k + ((i + 1 : Nat) : Int) = k + (i : Int) + 1 := by omega
      rw [e1]; exact he'
    · have hb' : b < s.heap.objs.size := by
        have e' : b = e ∨ b = it := by simpa using hb
        rcases e' with z | z
        · rw [z]; exact hel
        · rw [z]; exact hil
      rw [upd_ne (Nat.ne_of_lt hb')]
      exact (hf b hb).1
  done := by
    intro X hP hw hK hc i pins s σ H E I hf st hg
    subst hP hw hK
    obtain ⟨⟨old, he⟩, t1⟩ := st
    obtain ⟨xs, v1, hi⟩ := hg
    obtain ⟨T1, P1, D1, s1, b1, r1⟩ := src_draws (I.ok.hd hc) I v1 t1 n1
    obtain ⟨f0, f1, f2, f3, f4, f5⟩ := hf it (by simp)
    subst hi
    exact wpAny_pyNext_enum_endD D1 he s1 fun h' eb => ⟨rfl, I.turned (t' := s.toks) (fun b o hb q => eb b o hb q) f0 f1 f3 f4 f5⟩
  self := fun A i s Q E st h => let ⟨⟨_, he⟩, _⟩ := st; wpAny_pyIter_enum he h
def It1 (K : PySem.W.Frag) : Src → It
  | .l a => Itl K a
  | .t a => Itt K a
  | .s x => Its x
def iSrc (K : PySem.W.Frag) (te : TE) : TI := fun σ H R => te σ H fun v H1 => ∃ S xs, S.is v ∧ S.val K H1 xs ∧ R (It1 K S) H1
section
variable {X : Cx} {tg e e2 e3 : Expr}
theorem pi_src {te : TE} (he : PE X e te) : PI X tg e (iSrc X.K te) := by
  refine ⟨fun pins s σ H R I h => ?_⟩
  refine thn (he.run pins s σ H _ I h) fun v s1 ⟨y, H1, I1, r1, S, xs, hs, hv, q⟩ => ?_
  cases S with
  | l a =>
    cases hs
    cases r1
    obtain ⟨its, rv, p, hz⟩ := I1.list hv
    exact wpAny_pyIter_list p.isList (pi_one (tk := s1.toks) I1 _ (turn_list a _) ⟨_, Heap.get?_push_size _ rfl, rfl, rfl⟩ q)
  | t a =>
    cases hs
    cases r1
    obtain ⟨its, rv, p, hz⟩ := I1.tuple hv
    exact wpAny_pyIter_tuple (show s1.heap.IsTuple a its.toArray from p) (pi_one (tk := s1.toks) I1 _ (turn_tuple a _) ⟨_, Heap.get?_push_size _ rfl, rfl, rfl⟩ q)
  | s x =>
    cases hs
    obtain ⟨t, rfl⟩ := r1
    cases ha : x.cps.all (· < 128)
    · exact wpAny_pyIter_wide ha (pi_one (tk := s1.toks) I1 _ (turn_str _ x t "str_iterator" (.inr rfl)) ⟨_, Heap.get?_push_size _ rfl, rfl, rfl⟩ q)
    · exact wpAny_pyIter_ascii ha (pi_one (tk := s1.toks) I1 _ (turn_str _ x t "str_ascii_iterator" (.inl rfl)) ⟨_, Heap.get?_push_size _ rfl, rfl, rfl⟩ q)
def iN (K : PySem.W.Frag) (ta : TA) : TI := fun σ H R => ta σ H fun vs H1 => ∃ v S xs, vs = [v] ∧ S.is v ∧ S.val K H1 xs ∧ R (ItN K 0 S) H1
theorem fp2 {s : Shared} {pins : List (Addr × Obj)} {σ : L2.St} {H : Hp} (I : Inv X pins σ H s) {fp : List Addr} {n : Nat} (h : ∀ b ∈ fp, s.heap.objs.size ≤ b) : ∀ b ∈ fp, FpOk X pins H b := fun b hb => I.fpOk (h b hb) (I.hok.fresh (h b hb))
theorem pi_N {ta : TA} {p pos tpos : Pos} {elts : List Expr} {kk : Nat} (hg : Gl X "enumerate") (hm : X.mg "enumerate" = none) (ha : PA X [e] ta) (hs : starEach [e] X.env = (false, eval e X.env) :: starEach [] X.env := by rfl) :
    PI X (.Tuple elts kk tpos) (.Call (.Name "enumerate" p) [e] [] pos) (iN X.K ta) := by
  refine ⟨fun pins s σ H R I h => ?_⟩
  refine Call_ (ld_blt I hg hm boot_enumerate (PyProof.Rows.callWith_type1 (thn (ha.run pos pins s σ H _ I h) fun us s1 ⟨vs, H1, I1, r1, q1⟩ => ?_) hs rfl))
  obtain ⟨v, S, xs, ex, hs1, hv, q⟩ := q1
  subst ex
  cases r1 with
  | cons r rr =>
    cases rr
    obtain ⟨o, G, B, hG, hat, hlt⟩ := src_begins I1 hs1 r hv
    refine enum_begins1 B hG fun h' he hit hsz hk => wpAny_pyIter_enum he ?_
    have I2 : Inv X pins σ H1 { s1 with heap := h' } := I1.kept (t' := s1.toks) hk
    refine ⟨s1.heap.objs.size + 1, [s1.heap.objs.size + 1, s1.heap.objs.size], _, _, H1, rfl, I2, turnN (S := S) (k := 0) (Nat.succ_ne_self _) (fun z => absurd (hlt _ z) (Nat.lt_irrefl _)) (fun z => Nat.lt_asymm (hlt _ z) (Nat.lt_succ_self _)), ⟨⟨.none, by simpa using he⟩, hat _ _ hit⟩, fp2 (n := 0) I1 fun b hb => ?_, q⟩
    have e' : b = s1.heap.objs.size + 1 ∨ b = s1.heap.objs.size := by simpa using hb
    rcases e' with z | z
    · rw [z]; exact Nat.le_add_right _ _
    · rw [z]; exact Nat.le_refl _
theorem callWith_typeKw {M : Model} {A : Around} {E : Value → Shared → Prop} {s : Shared} {env : PySem.Env} {pos : Pos} {id : String} {e : Expr} {rest : List Expr} {kws : List Keyword} {Q : Value → Shared → Prop}
    (h : wpAny M A (spliced (backTo pos (starEach (e :: rest) env))) (fun vs s₁ => wpAny M A (evalAll ((backToKw pos (keywordEach kws env)).map (·.2)))
      (fun kvs s₂ => wpAny M A (call (.type id) vs (((backToKw pos (keywordEach kws env)).filterMap (·.1)).zip kvs)) Q E s₂) E s₁) E s)
    (he : starEach (e :: rest) env = (false, eval e env) :: starEach rest env)
    (hplain : (backTo pos (starEach rest env)).any (·.1) = false)
    (hall : (backToKw pos (keywordEach kws env)).all (·.1.isSome) = true := by rfl)
    (hkw : (backToKw pos (keywordEach kws env)).any (·.1.isNone) = false := by rfl) :
    wpAny M A (callWith pos (.type id) [] (backTo pos (starEach (e :: rest) env)) (backToKw pos (keywordEach kws env))) Q E s := by
  have hp : (backTo pos (starEach (e :: rest) env)).any (·.1) = false := by rw [he]; show (false || (backTo pos (starEach rest env)).any (·.1)) = false; rw [hplain]; rfl
  unfold callWith
  refine wpAny_bind (wpAny_holding ?_)
  have hh : wpAny M A (evalArgs (.type id) true (backTo pos (starEach (e :: rest) env)) (backToKw pos (keywordEach kws env))) (fun a s₁ => wpAny M A (call (.type id) ([] ++ a.pos) a.kw) Q E s₁) E s := by
    rw [he] at h ⊢
    exact evalArgs_kwB hall h
  refine wpAny_mono hh (fun a s₁ h₁ => wpAny_bind (wpAny_standAt ?_)) fun _ _ x => x
  simp only [hp, hkw, Bool.or_false]
  refine wpAny_bind (wpAny_pure ?_)
  exact wpAny_bind (wpAny_mono h₁ (fun r s₂ hr => wpAny_bind (wpAny_holding (wpAny_point (wpAny_pure hr)))) fun _ _ x => x)
end
end Zs
end
section
namespace Zs
open PySem PySem.Spec PyProof.Rows L2
open Sem (wp)
section
variable {X : Cx} {tg e e2 e3 : Expr}
def iZ2 (K : PySem.W.Frag) (ta : TA) : TI := fun σ H R => ta σ H fun vs H1 => ∃ v1 v2 S1 S2 xs1 xs2, vs = [v1, v2] ∧ S1.is v1 ∧ S1.val K H1 xs1 ∧ S2.is v2 ∧ S2.val K H1 xs2 ∧ R (It2 K S1 S2) H1
theorem pi_Z2 {ta : TA} {p pos tpos p3 kp : Pos} {elts : List Expr} {kk j : Nat} (hg : Gl X "zip") (hm : X.mg "zip" = none) (ha : PA X [e, e2] ta) (hs : starEach [e, e2] X.env = (false, eval e X.env) :: starEach [e2] X.env := by rfl) (hpl : (backTo pos (starEach [e2] X.env)).any (·.1) = false := by rfl) :
    PI X (.Tuple elts kk tpos) (.Call (.Name "zip" p) [e, e2] [⟨some (Str.ofString "strict"), .Constant (.bool true) j p3, kp⟩] pos) (iZ2 X.K ta) := by
  refine ⟨fun pins s σ H R I h => ?_⟩
  refine PySem.wpAny_Call_Name_kw (ld_blt I hg hm boot_zip (callWith_typeKw (thn (ha.run pos pins s σ H _ I h) fun us s1 ⟨vs, H1, I1, r1, q1⟩ => ?_) hs hpl))
  have hpk : PK X [⟨some (Str.ofString "strict"), .Constant (.bool true) j p3, kp⟩] (tCons (tC (.bl true)) tNil) := pk_cons pe_bl pk_nil
  refine thn (hpk.run pos pins s1 σ H1 _ I1 (show (tCons (tC (.bl true)) tNil) σ H1 (fun ws H2 => ws = [.bl true] ∧ H2 = H1) from ⟨rfl, rfl⟩)) fun us2 s2 ⟨vs2, H2, I2, r2, e1, e2⟩ => ?_
  subst e1 e2
  obtain ⟨v1, v2, S1, S2, xs1, xs2, ex, hs1, hv1, hs2, hv2, q⟩ := q1
  subst ex
  cases r2 with
  | cons ru rr2 =>
    cases rr2
    cases ru
    cases r1 with
    | cons g1 r1 =>
      cases r1 with
      | cons g2 r1 =>
        cases r1
        obtain ⟨o1, G1, B1, hG1, hat1, hlt1⟩ := src_begins I2 hs1 g1 hv1
        obtain ⟨o2, G2, B2, hG2, hat2, hlt2⟩ := src_begins I2 hs2 g2 hv2
        have nlt1 : ∀ k : Nat, s2.heap.objs.size + k ∉ S1.fp := fun k z => absurd (hlt1 _ z) (Nat.not_lt.mpr (Nat.le_add_right _ _))
        have nlt2 : ∀ k : Nat, s2.heap.objs.size + k ∉ S2.fp := fun k z => absurd (hlt2 _ z) (Nat.not_lt.mpr (Nat.le_add_right _ _))
        refine begins2 B1 B2 hG1 hG2 fun h' hz hTI hTO h1 h2 hsz hk => iterSelf hz ?_
        have I3 : Inv X pins σ H2 { s2 with heap := h' } := I2.kept (t' := s2.toks) hk
        have Sp : Sep2 (s2.heap.objs.size + 4) (s2.heap.objs.size + 2) (s2.heap.objs.size + 3) s2.heap.objs.size (s2.heap.objs.size + 1) (s2.heap.objs.size :: S1.fp) ((s2.heap.objs.size + 1) :: S2.fp) := ⟨fun q => absurd (Nat.add_left_cancel (m := 4) (k := 2) q) (by decide), fun q => absurd (Nat.add_left_cancel (m := 4) (k := 3) q) (by decide), fun q => absurd (Nat.add_left_cancel (m := 2) (k := 3) q) (by decide), List.mem_cons_self, (fun z => (List.mem_cons.mp z).elim (fun q => absurd (Nat.add_left_cancel (m := 4) (k := 0) q) (by decide)) (nlt1 4)), (fun z => (List.mem_cons.mp z).elim (fun q => absurd (Nat.add_left_cancel (m := 2) (k := 0) q) (by decide)) (nlt1 2)), (fun z => (List.mem_cons.mp z).elim (fun q => absurd (Nat.add_left_cancel (m := 3) (k := 0) q) (by decide)) (nlt1 3)), (fun z => (List.mem_cons.mp z).elim (fun q => absurd (Nat.add_left_cancel (m := 0) (k := 1) q) (by decide)) (nlt2 0)), List.mem_cons_self, (fun z => (List.mem_cons.mp z).elim (fun q => absurd (Nat.add_left_cancel (m := 4) (k := 1) q) (by decide)) (nlt2 4)), (fun z => (List.mem_cons.mp z).elim (fun q => absurd (Nat.add_left_cancel (m := 2) (k := 1) q) (by decide)) (nlt2 2)), (fun z => (List.mem_cons.mp z).elim (fun q => absurd (Nat.add_left_cancel (m := 3) (k := 1) q) (by decide)) (nlt2 3)), (fun z => (List.mem_cons.mp z).elim (fun q => absurd (Nat.add_left_cancel (m := 1) (k := 0) q) (by decide)) (nlt1 1))⟩
        refine ⟨s2.heap.objs.size + 4, [s2.heap.objs.size + 4, s2.heap.objs.size + 2, s2.heap.objs.size + 3, s2.heap.objs.size, s2.heap.objs.size + 1], _, _, H2, rfl, I3, turn2 Sp (nlt1 0) (nlt2 1), ⟨hz, hTI, ⟨_, _, hTO⟩, hat1 _ _ h1, hat2 _ _ h2⟩, fp2 (n := 0) I2 fun b hb => ?_, q⟩
        have e' : b = s2.heap.objs.size + 4 ∨ b = s2.heap.objs.size + 2 ∨ b = s2.heap.objs.size + 3 ∨ b = s2.heap.objs.size ∨ b = s2.heap.objs.size + 1 := by simpa using hb
        rcases e' with z | z | z | z | z
        · rw [z]; exact Nat.le_add_right _ _
        · rw [z]; exact Nat.le_add_right _ _
        · rw [z]; exact Nat.le_add_right _ _
        · rw [z]; exact Nat.le_refl _
        · rw [z]; exact Nat.le_add_right _ _
end
end Zs
end
section
/-! What is walked: lists, tuples, texts, ranges, enumerate, zip(.., strict=True). -/
namespace Dn
open PySem L2 Zs
/-! ### what is walked, as data -/
def signD (x : Str) : List Dt := x.cps.toList.map fun c => Dt.str ⟨#[c]⟩
def srcD : Dt → Option (List Dt)
  | .lst ds => some ds
  | .tup ds => some ds
  | .str x => some (signD x)
  | .scr ns => some (ns.map .int)
  | .emp => some []
  | _ => none
theorem rpl_signs {k : Kp} {D : Hp} (x : Str) : RpL k D (signV x) (signD x) := by
  unfold signV signD
  generalize x.cps.toList = l
  induction l with
  | nil => exact .nil
  | cons a l ih => exact .cons (.str _) ih
theorem src_rp {k : Kp} {D : Hp} {v : V} {d : Dt} {ds : List Dt} (r : Rp k D v d) (h : srcD d = some ds) : ∃ S xs, Src.is S v ∧ (∀ H, Sub D H → S.val k.K H xs) ∧ RpL k D xs ds := by
  cases r with
  | lst hd r => cases h; exact ⟨.l _, _, rfl, fun H s => .inl (.inl (s _ _ hd)), r⟩
  | tup hd r => cases h; exact ⟨.t _, _, rfl, fun H s => tupS s hd, r⟩
  | str x => cases h; exact ⟨.s x, _, rfl, fun H s => rfl, rpl_signs x⟩
  | scr hd => cases h; exact ⟨.l _, _, rfl, fun H s => sqL_sub s hd, rpl_ints _⟩
  | emp hd => cases h; exact ⟨.t _, [], rfl, fun H s => sqT_sub (D := fun _ => none) (by intro _ _ e; cases e) hd, .nil⟩
  | _ => cases h
theorem it1_walk {k : Kp} {D : Hp} {S : Src} {xs : List V} {ds : List Dt} (hv : ∀ H, Sub D H → S.val k.K H xs) (r : RpL k D xs ds) : Walk (It1 k.K S) ds.length (fun H => Sub D H) (Yd k D ds) := by
  have base : ∀ {i : Nat} {H : Hp} {x : V} {H' : Hp}, Sub D H → H' = H ∧ xs[i]? = some x → Yd k D ds i H x H' := by
    rintro i H x H' s ⟨rfl, hx⟩
    obtain ⟨d, hd, rd⟩ := r.get hx
    exact ⟨d, hd, fun D1 s1 u1 => ⟨D1, Ex.refl u1, rd.mono s1⟩⟩
  rw [← r.length]
  cases S with
  | l a => exact (walk_list (a := a) (xs := xs)).mono (fun H s => hv H s) fun i H x H' _ s y => base s y
  | t a => exact (walk_tup (a := a) (xs := xs)).mono (fun H s => hv H s) fun i H x H' _ s y => base s y
  | s x =>
    have e : xs = signV x := hv D (Sub.refl _)
    have el : xs.length = x.cps.size := by rw [e]; unfold signV; simp
    rw [el]
    refine (walk_str (z := x)).mono (fun H s => trivial) fun i H v H' _ s y => base s ⟨y.1, ?_⟩
    obtain ⟨_, c, hc, rfl⟩ := y
    rw [e]; unfold signV; simp [hc]
def gIt (f : Dt → Option (List Dt)) (g : GE) : GA := fun env w => (g env w).bind fun d w1 => match f d with
  | some ds => .ok ds w1
  | none => .bad
section
variable {F : Fc}
theorem di_any {tg e : Expr} {g : GE} (h : DE F e g) : DI F tg e (gIt srcD g) := by
  obtain ⟨t, a, b⟩ := h.ex
  refine ⟨⟨fun W => iSrc F.K (t W), fun X W O T => by rw [← O.K]; exact pi_src (a X W O T), fun W C env w σ D H R K S p => ?_⟩⟩
  refine b W C env w σ D H _ K S ?_
  unfold gIt at p
  cases ea : g env w with
  | bad => rw [ea] at p; exact p.elim
  | exc c fs w1 => rw [ea] at p; exact p
  | ok d w1 =>
    rw [ea] at p
    simp only [Out.bind] at p
    intro v D1 H1 S1 s1 rv
    cases es : srcD d with
    | none => rw [es] at p; exact p.elim
    | some ds =>
      rw [es] at p
      obtain ⟨Sr, xs, hs, hv, rx⟩ := src_rp rv es
      rw [← K.K]
      exact ⟨Sr, xs, hs, hv H1 S1.up, p _ D1 H1 S1 s1 (it1_walk hv rx)⟩
/-! range -/
def rngD (lo : Int) : Nat → List Dt := fun n => (List.range n).map fun i => Dt.int (lo + (i : Nat))
def oRng1 : List Dt → Option (List Dt)
  | [.int j] => if -(2 ^ 62) ≤ j ∧ j < 2 ^ 62 then some (rngD 0 j.toNat) else none
  | _ => none
def gIts (f : List Dt → Option (List Dt)) (g : GA) : GA := fun env w => (g env w).bind fun d w1 => match f d with
  | some ds => .ok ds w1
  | none => .bad
theorem rng_walk {k : Kp} {D : Hp} {lo : Int} {n : Nat} : Walk (Itr lo n) (rngD lo n).length (fun H => Sub D H) (Yd k D (rngD lo n)) := by
  have e : (rngD lo n).length = n := by unfold rngD; simp
  rw [e]
  refine (walk_range (lo := lo) (n := n)).mono (fun _ _ => trivial) fun i H x H' hi s y => ?_
  obtain ⟨rfl, rfl⟩ := y
  exact ⟨.int (lo + i), by unfold rngD; simp [hi], fun D1 s1 u1 => ⟨D1, Ex.refl u1, .int _⟩⟩
theorem den_its {W : WX} {ta : TA} {ga : GA} {f : List Dt → Option (List Dt)} {wi : TA → TI} (ha : DenL F W ta ga)
    (hw : ∀ (k : Kp) (σ : St) (D H : Hp) (vs : List V) (ds items : List Dt) (R : It → Hp → Prop), k.K = F.K → Sub D H → RpL k D vs ds → f ds = some items → (∀ J, Walk J items.length (fun H => Sub D H) (Yd k D items) → R J H) → wi (fun _ H Q => Q vs H) σ H R)
    (hm : ∀ (t : TA) (σ : St) (H : Hp) (R : It → Hp → Prop), (t σ H fun vs H1 => wi (fun _ H Q => Q vs H) σ H1 R) → wi t σ H R) : DenI F W (wi ta) (gIts f ga) := by
  intro C env w σ D H R K S p
  refine hm _ _ _ _ (ha C env w σ D H _ K S ?_)
  unfold gIts at p
  cases ea : ga env w with
  | bad => rw [ea] at p; exact p.elim
  | exc c fs w1 => rw [ea] at p; exact p
  | ok ds w1 =>
    rw [ea] at p
    simp only [Out.bind] at p
    intro vs D1 H1 S1 s1 rv
    cases es : f ds with
    | none => rw [es] at p; exact p.elim
    | some items =>
      rw [es] at p
      exact hw C.k σ D1 H1 vs ds items R K.K S1.up rv es fun J wk => p J D1 H1 S1 s1 wk
theorem di_range1 {tg a : Expr} {ga : GA} {p pos : PySem.Pos} (hg : F.sc.names.lookup ("range" : Str) = some .globalImplicit) (hm : F.mg "range" = none) (h : DL F [a] ga) (hs : ∀ env, starEach [a] env = [(false, eval a env)] := by intro _; rfl) : DI F tg (.Call (.Name "range" p) [a] [] pos) (gIts oRng1 ga) := by
  obtain ⟨t, a1, a2⟩ := h.ex
  refine ⟨⟨fun W => iRng1 (t W), fun X W O T => pi_range1 (by show X.env.scope.names.lookup _ = _; rw [O.sc]; exact hg) (by rw [O.mg]; exact hm) (a1 X W O T) (hs _), fun W => den_its (a2 W) (fun k σ D H vs ds items R hK u r e q => ?_) fun t σ H R h => h⟩⟩
  unfold oRng1 at e
  split at e
  · split at e
    · cases e
      cases r with
      | cons r rr => cases rr; cases r; exact ⟨_, rfl, by rename_i h; exact h.1, by rename_i h; exact h.2, q _ rng_walk⟩
    · cases e
  · cases e
/-! enumerate -/
def enumD (k : Int) : List Dt → List Dt
  | [] => []
  | d :: ds => .tup [.int k, d] :: enumD (k + 1) ds
theorem enumD_len : ∀ (k : Int) (ds : List Dt), (enumD k ds).length = ds.length
  | _, [] => rfl
  | k, d :: ds => congrArg (· + 1) (enumD_len (k + 1) ds)
theorem enumD_get : ∀ (k : Int) (ds : List Dt) (i : Nat) (d : Dt), ds[i]? = some d → (enumD k ds)[i]? = some (.tup [.int (k + (i : Nat)), d])
  | _, [], i, d, h => by simp at h
  | k, d :: ds, 0, d', h => by simp at h; subst h; simp [enumD]
  | k, d :: ds, i + 1, d', h => by
    simp at h
    have := enumD_get (k + 1) ds i d' h
    simp only [enumD, List.getElem?_cons_succ, this]
    have e : k + 1 + ((i : Nat) : Int) = k + ((i + 1 : Nat) : Int) := by omega
    rw [e]
def oEnum (k : Int) : List Dt → Option (List Dt)
  | [d] => (srcD d).map (enumD k)
  | _ => none
theorem tup_new {k : Kp} {D1 H : Hp} {T : Addr} {xs : List V} {ds : List Dt} (u : Sub D1 H) (hn : H T = none) (r : RpL k D1 xs ds) : ∃ D2, Ex D1 H D2 (upd H T (.tup xs)) ∧ Rp k D2 (.ref T) (.tup ds) :=
  ⟨upd D1 T (.tup xs), Ex.new u hn, .tup upd_same (r.mono (Ex.new (o := .tup xs) u hn).sub)⟩
theorem enum_walk {k : Kp} {D : Hp} {S : Src} {c : Int} {xs : List V} {ds : List Dt} (hv : ∀ H, Sub D H → S.val k.K H xs) (r : RpL k D xs ds) : Walk (ItN k.K c S) (enumD c ds).length (fun H => Sub D H) (Yd k D (enumD c ds)) := by
  rw [enumD_len, ← r.length]
  refine ⟨fun i H hi s => ⟨xs, hv H s, hi⟩, fun H s => ⟨xs, hv H s, rfl⟩, fun i H x H' hi s y => ?_⟩
  obtain ⟨T, x, rfl, hn, rfl, hx⟩ := y
  obtain ⟨d, hd, rd⟩ := r.get (hx xs (hv H s))
  exact ⟨_, enumD_get c ds i d hd, fun D1 s1 u1 => tup_new u1 hn (.cons (.int _) (.cons (rd.mono s1) .nil))⟩
theorem one_rp {k : Kp} {D : Hp} {vs : List V} {d : Dt} (r : RpL k D vs [d]) : ∃ v, vs = [v] ∧ Rp k D v d := by
  cases r with | cons r rr => cases rr; exact ⟨_, rfl, r⟩
theorem two_rp {k : Kp} {D : Hp} {vs : List V} {d e : Dt} (r : RpL k D vs [d, e]) : ∃ v u, vs = [v, u] ∧ Rp k D v d ∧ Rp k D u e := by
  cases r with | cons r rr => cases rr with | cons r2 rr => cases rr; exact ⟨_, _, rfl, r, r2⟩
theorem three_rp {k : Kp} {D : Hp} {vs : List V} {d e f : Dt} (r : RpL k D vs [d, e, f]) : ∃ v u t, vs = [v, u, t] ∧ Rp k D v d ∧ Rp k D u e ∧ Rp k D t f := by
  cases r with | cons r rr => obtain ⟨v, u, rfl, a, b⟩ := two_rp rr; exact ⟨_, _, _, rfl, r, a, b⟩
theorem di_enum {a : Expr} {ga : GA} {p pos tpos : PySem.Pos} {elts : List Expr} {kk : Nat} (hg : F.sc.names.lookup ("enumerate" : Str) = some .globalImplicit) (hm : F.mg "enumerate" = none) (h : DL F [a] ga) (hs : ∀ env, starEach [a] env = (false, eval a env) :: starEach [] env := by intro _; rfl) :
    DI F (.Tuple elts kk tpos) (.Call (.Name "enumerate" p) [a] [] pos) (gIts (oEnum 0) ga) := by
  obtain ⟨t, a1, a2⟩ := h.ex
  refine ⟨⟨fun W => iN F.K (t W), fun X W O T => by rw [← O.K]; exact pi_N (by show X.env.scope.names.lookup _ = _; rw [O.sc]; exact hg) (by rw [O.mg]; exact hm) (a1 X W O T) (hs _), fun W => den_its (wi := iN F.K) (a2 W) (fun k σ D H vs ds items R hK u r e q => ?_) fun t σ H R h => h⟩⟩
  unfold oEnum at e
  split at e
  · rename_i d
    cases es : srcD d with
    | none => rw [es] at e; cases e
    | some ds =>
      rw [es] at e
      cases e
      obtain ⟨v, rfl, rv⟩ := one_rp r
      obtain ⟨Sr, xs, hs, hv, rx⟩ := src_rp rv es
      rw [← hK]
      exact ⟨v, Sr, xs, rfl, hs, hv H u, q _ (enum_walk hv rx)⟩
  · cases e
/-! zip -/
def zip2D : List Dt → List Dt → List Dt
  | a :: as, b :: bs => .tup [a, b] :: zip2D as bs
  | _, _ => []
theorem zip2D_len : ∀ (a b : List Dt), a.length = b.length → (zip2D a b).length = a.length
  | [], _, _ => by simp [zip2D]
  | _ :: _, [], h => by simp at h
  | _ :: a, _ :: b, h => by simp [zip2D, zip2D_len a b (by simpa using h)]
theorem zip2D_get : ∀ (a b : List Dt) (i : Nat) (x y : Dt), a[i]? = some x → b[i]? = some y → (zip2D a b)[i]? = some (.tup [x, y])
  | [], _, i, x, y, h, _ => by simp at h
  | _ :: _, [], i, x, y, _, h => by simp at h
  | _ :: a, _ :: b, 0, x, y, h, h' => by simp at h h'; subst h h'; simp [zip2D]
  | _ :: a, _ :: b, i + 1, x, y, h, h' => by simpa [zip2D] using zip2D_get a b i x y (by simpa using h) (by simpa using h')
def oZip2 : List Dt → Option (List Dt)
  | [a, b] => match srcD a, srcD b with
    | some x, some y => if x.length = y.length then some (zip2D x y) else none
    | _, _ => none
  | _ => none
theorem zip2_walk {k : Kp} {D : Hp} {S1 S2 : Src} {xs1 xs2 : List V} {d1 d2 : List Dt} (h1 : ∀ H, Sub D H → S1.val k.K H xs1) (h2 : ∀ H, Sub D H → S2.val k.K H xs2) (r1 : RpL k D xs1 d1) (r2 : RpL k D xs2 d2) (hl : d1.length = d2.length) :
    Walk (It2 k.K S1 S2) (zip2D d1 d2).length (fun H => Sub D H) (Yd k D (zip2D d1 d2)) := by
  rw [zip2D_len _ _ hl, ← r1.length]
  have e2 : xs2.length = xs1.length := by rw [r1.length, r2.length, hl]
  refine ⟨fun i H hi s => ⟨xs1, xs2, h1 H s, h2 H s, e2, hi⟩, fun H s => ⟨xs1, xs2, h1 H s, h2 H s, e2, rfl⟩, fun i H x H' hi s y => ?_⟩
  obtain ⟨T, x, y, rfl, hn, rfl, hx, hy⟩ := y
  obtain ⟨a, ha, ra⟩ := r1.get (hx xs1 (h1 H s))
  obtain ⟨b, hb, rb⟩ := r2.get (hy xs2 (h2 H s))
  exact ⟨_, zip2D_get _ _ i _ _ ha hb, fun D1 s1 u1 => tup_new u1 hn (.cons (ra.mono s1) (.cons (rb.mono s1) .nil))⟩
theorem di_zip2 {a b : Expr} {ga : GA} {p pos tpos p3 kp : PySem.Pos} {elts : List Expr} {kk j : Nat} (hg : F.sc.names.lookup ("zip" : Str) = some .globalImplicit) (hm : F.mg "zip" = none) (h : DL F [a, b] ga) (hs : ∀ env, starEach [a, b] env = (false, eval a env) :: starEach [b] env := by intro _; rfl) (hpl : ∀ env, (backTo pos (starEach [b] env)).any (·.1) = false := by intro _; rfl) :
    DI F (.Tuple elts kk tpos) (.Call (.Name "zip" p) [a, b] [⟨some (Str.ofString "strict"), .Constant (.bool true) j p3, kp⟩] pos) (gIts oZip2 ga) := by
  obtain ⟨t, a1, a2⟩ := h.ex
  refine ⟨⟨fun W => iZ2 F.K (t W), fun X W O T => by rw [← O.K]; exact pi_Z2 (by show X.env.scope.names.lookup _ = _; rw [O.sc]; exact hg) (by rw [O.mg]; exact hm) (a1 X W O T) (hs _) (hpl _), fun W => den_its (wi := iZ2 F.K) (a2 W) (fun k σ D H vs ds items R hK u r e q => ?_) fun t σ H R h => h⟩⟩
  unfold oZip2 at e
  split at e
  · split at e
    · split at e
      · cases e
        rename_i x y es1 es2 hl
        obtain ⟨v1, v2, rfl, g1, g2⟩ := two_rp r
        obtain ⟨S1, xs1, hs1, hv1, rx1⟩ := src_rp g1 es1
        obtain ⟨S2, xs2, hs2, hv2, rx2⟩ := src_rp g2 es2
        rw [← hK]
        exact ⟨v1, v2, S1, S2, xs1, xs2, rfl, hs1, hv1 H u, hs2, hv2 H u, q _ (zip2_walk hv1 hv2 rx1 rx2 hl)⟩
      · cases e
    · cases e
  · cases e
end
end Dn
end
section
/-! Sets of keys that are told by value (texts): made of a text, sorted. -/
namespace Sk
open PySem PySem.Spec PyProof.Rows L2
section
variable {P : Program} {w : World} {κ : Type} [DecidableEq κ]
/-- the set at a holds the keys ks; f tells a key from its value -/
def SetK (knd : KeyKind P w κ) (f : Value → κ) (h : Heap) (a : Addr) (ks : List κ) : Prop :=
  ∃ o es ep t, h.get? a = some o ∧ o.ExactSet ∧ o.data = .set es ep t ∧ ElemsOf knd es.toList ∧ (es.toList.map fun e => f e.2).Perm ks ∧ ks.Nodup ∧
    es.size < scanBound ∧ t.fits es.size = true ∧ Ris t.place.toList ∧ (w.params.followText "set-order" = true ∨ t.led = true)
variable {knd : KeyKind P w κ} {f : Value → κ} {A : Around} {E : Value → Shared → Prop} {s : Shared} {h h' : Heap} {a : Addr} {ks : List κ}
theorem SetK.at (R : SetK knd f h a ks) (k : ∀ o, h.get? a = some o → h'.get? a = some o) : SetK knd f h' a ks := by
  obtain ⟨o, es, ep, t, ho, r⟩ := R
  exact ⟨o, es, ep, t, k o ho, r⟩
theorem SetK.len (R : SetK knd f h a ks) : ks.length < scanBound := by
  obtain ⟨o, es, ep, t, ho, hx, hd, g, pm, nd, hb, _⟩ := R
  rw [← pm.length_eq, List.length_map, Array.length_toList]
  exact hb
theorem SetK.new {h : Heap} (ho : h.get? a = some { cls := .type "set", dict := none, data := .set #[] 0 (.fresh 0 0 (!w.params.followText "set-order")) }) : SetK knd f h a [] :=
  ⟨_, #[], 0, _, ho, ⟨rfl, rfl, rfl⟩, rfl, (fun e he => by simp at he), List.Perm.refl _, List.nodup_nil, (by decide), (by rfl), List.Pairwise.nil, by
    show _ ∨ (!w.params.followText "set-order") = true
    cases w.params.followText "set-order"
    · exact .inr rfl
    · exact .inl rfl⟩
theorem add_tail {g : Bool → Sem Unit} (hg : ∀ (b : Bool) (s₁ : Shared) (Q' : Unit → Shared → Prop), Q' () s₁ → wpAny (model P w) A (g b) Q' E s₁)
    {o : Obj} {es : Array (Int × Value)} {ep : Nat} {t : SetTable} (ho : s.heap.get? a = some o) (hex : o.ExactSet) (hd : o.data = .set es ep t)
    {es1 : Array (Int × Value)} {t2 : SetTable} {ks' : List κ} (g1 : ElemsOf knd es1.toList) (m1 : (es1.toList.map fun e => f e.2).Perm ks') (nd1 : ks'.Nodup)
    (hb1 : es1.size < scanBound) (hf2 : t2.fits es1.size = true) (hr : Ris t2.place.toList) (hl : w.params.followText "set-order" = true ∨ t2.led = true) {wasDummy : Bool} {R : Option Bool → Shared → Prop}
    (hR : ∀ h', Heap.SameBut a s.heap h' → SetK knd f h' a ks' → R (some true) { s with heap := h' }) :
    wpAny (model P w) A (do
        storeSet a es1 t2
        if (!wasDummy && t2.tooFull) = true then do
            g (relayAll t2 es1 (SetTable.grown es1.size)).2.2
            storeSet a (relayAll t2 es1 (SetTable.grown es1.size)).1 (relayAll t2 es1 (SetTable.grown es1.size)).2.1
            pure (some true)
          else pure (some true)) R E s := by
  refine wpAny_bind (wpAny_storeSet_of ho hd ?_ (fits_of_scanBound hb1))
  have ho1 := store_at (es' := es1) (t' := t2) ho hd
  have sb1 := Heap.SameBut.update s.heap a (Obj.putSet es1 t2)
  split
  · have pm := relayAll_perm t2 es1 (SetTable.grown es1.size)
    have hf3 := relayAll_fits t2 es1 (SetTable.grown es1.size)
    have hr3 := relayAll_ris t2 es1 (SetTable.grown es1.size)
    have hl3 := relayAll_led t2 es1 (SetTable.grown es1.size)
    generalize relayAll t2 es1 (SetTable.grown es1.size) = Z at pm hf3 hr3 hl3 ⊢
    obtain ⟨es2, t3, gave⟩ := Z
    dsimp only at pm hf3 hr3 hl3 ⊢
    have hsz : es2.size = es1.size := by rw [← Array.length_toList, pm.length_eq, Array.length_toList]
    have hb2 : es2.size < scanBound := by rw [hsz]; exact hb1
    refine wpAny_bind (hg _ _ _ ?_)
    refine wpAny_bind (wpAny_storeSet_of ho1 rfl ?_ (fits_of_scanBound hb2))
    have ho2 := store_at (es' := es2) (t' := t3) ho1 rfl
    refine wpAny_pure (hR _ (sb1.trans (Heap.SameBut.update _ a _)) ?_)
    exact ⟨_, es2, _, t3, ho2, hex, rfl, g1.perm pm, (pm.map _).trans m1, nd1, hb2, hf3, hr3, hl.imp id fun z => by rw [hl3]; exact z⟩
  · exact wpAny_pure (hR _ sb1 ⟨_, es1, _, t2, ho1, hex, rfl, g1, m1, nd1, hb1, hf2, hr, hl⟩)
/-- the keys behind an add -/
def addK (k : κ) (ks : List κ) : List κ := if k ∈ ks then ks else k :: ks
theorem add_hashed (hfk : ∀ k v, knd.is k v = true → f v = k) {k : κ} {v : Value} {Q : Bool → Shared → Prop} (hkey : knd.is k v = true) (hsc : v.scannable = true) (R : SetK knd f s.heap a ks) (room : ks.length + 1 < scanBound)
    (hQ : ∀ b h', Heap.SameBut a s.heap h' → SetK knd f h' a (addK k ks) → Q b { s with heap := h' }) :
    wpAny (model P w) A (setAddHashed a v (knd.hash k)) Q E s := by
  obtain ⟨o, es, ep, t, ho, hex, hd, hel, pm0, nd, hb, hf, hr, hl⟩ := R
  have mem : k ∈ ks ↔ ∃ e ∈ es.toList, knd.is k e.2 = true := by
    rw [← pm0.mem_iff, List.mem_map]
    constructor
    · rintro ⟨e, he, q⟩
      obtain ⟨⟨k', h1, _⟩, _⟩ := hel e he
      have := hfk k' e.2 h1
      rw [this] at q
      exact ⟨e, he, q ▸ h1⟩
    · rintro ⟨e, he, q⟩
      exact ⟨e, he, hfk k e.2 q⟩
  unfold setAddHashed setAddHashedIn
  refine wpAny_holding (wpAny_bind (wpAny_setState_of ho hd hf ?_))
  dsimp only
  rw [byScan_of hsc hb hel]
  simp only [↓reduceIte]
  unfold setAddByScan
  refine wpAny_bind ?_
  refine wpAny_bind (wpAny_rule ?_)
  refine wpAny_bind (wpAny_setScan_of hkey ho hd hf hel ?_)
  cases hfi : List.findIdx? (fun e => knd.is k e.2) es.toList with
  | some j =>
    dsimp only
    obtain ⟨hj, pj, _⟩ := List.findIdx?_eq_some_iff_getElem.mp hfi
    have hk : k ∈ ks := mem.2 ⟨es.toList[j], List.getElem_mem hj, pj⟩
    refine wpAny_pure (wpAny_pure ?_)
    refine hQ _ s.heap (Heap.SameBut.refl a s.heap) ?_
    unfold addK
    rw [if_pos hk]
    exact ⟨o, es, ep, t, ho, hex, hd, hel, pm0, nd, hb, hf, hr, hl⟩
  | none =>
    dsimp only
    have hnk : k ∉ ks := fun z => by
      obtain ⟨e, he, q⟩ := mem.1 z
      have c := List.findIdx?_eq_none_iff.mp hfi e he
      rw [q] at c
      cases c
    have hgw : ∀ (b : Bool) {s₁ : Shared} {Q' : Unit → Shared → Prop}, Q' () s₁ → wpAny (model P w) A (match b with | true => rule "set.scan.the-table-gave-way" | false => pure ()) Q' E s₁ :=
      fun b s₁ Q' q => by cases b <;> first | exact wpAny_pure q | exact wpAny_rule q
    have pm := layNew_perm t es (knd.hash k) v
    have hf1 := layNew_fits t es (knd.hash k) v
    have hr1 := layNew_ris t es (knd.hash k) v hr
    have hl1 := layNew_led t es (knd.hash k) v
    generalize layNew t es (knd.hash k) v = Z at pm hf1 hr1 hl1 ⊢
    obtain ⟨es1, t1, wasDummy, gave⟩ := Z
    dsimp only at pm hf1 hr1 hl1 ⊢
    rw [Array.toList_push] at pm
    have pc : es1.toList.Perm ((knd.hash k, v) :: es.toList) := pm.trans (List.perm_append_singleton _ _)
    have g1 : ElemsOf knd es1.toList := (hel.push hkey hsc).perm pm
    have m1 : (es1.toList.map fun e => f e.2).Perm (k :: ks) := by
      have q := pc.map fun e => f e.2
      rw [List.map_cons] at q
      have e : f v = k := hfk k v hkey
      simp only [e] at q
      exact q.trans (List.Perm.cons k pm0)
    have nd1 : (k :: ks).Nodup := List.nodup_cons.mpr ⟨hnk, nd⟩
    have hsz : es1.size = ks.length + 1 := by
      have := m1.length_eq
      rw [List.length_map, Array.length_toList] at this
      exact this
    have hb1 : es1.size < scanBound := by rw [hsz]; exact room
    have hled : w.params.followText "set-order" = true ∨ t1.led = true := hl.imp id fun z => by rw [hl1]; exact z
    have fin : ∀ h', Heap.SameBut a s.heap h' → SetK knd f h' a (k :: ks) → Q true { s with heap := h' } := fun h' sb r => by
      refine hQ true h' sb ?_
      unfold addK
      rw [if_neg hnk]
      exact r
    refine wpAny_bind (hgw _ ?_)
    split
    · refine wpAny_bind ?_
      rw [hashByValue_scannable 8 hsc]
      refine wpAny_pure ?_
      refine add_tail ?_ ho hex hd g1 m1 nd1 hb1 ?_ ?_ ?_ ?_
      · intro b s₁ Q' q; cases b <;> first | exact wpAny_pure q | exact wpAny_rule q
      · first | (split <;> first | exact hf1 | exact SetTable.fits_plain_off hf1) | exact hf1
      · first | (split <;> exact hr1) | exact hr1
      · first | (split <;> exact hled) | exact hled
      · intro h' sb r; dsimp only; exact wpAny_pure (fin h' sb r)
    · refine wpAny_bind (wpAny_pure ?_)
      simp only [↓reduceIte]
      refine add_tail ?_ ho hex hd g1 m1 nd1 hb1 hf1 hr1 hled ?_
      · intro b s₁ Q' q; cases b <;> first | exact wpAny_pure q | exact wpAny_rule q
      · intro h' sb r; dsimp only; exact wpAny_pure (fin h' sb r)
/-- the keys behind a row of adds -/
def addAll (ks : List κ) : List κ → List κ
  | [] => ks
  | k :: r => addAll (addK k ks) r
theorem addK_len (k : κ) (ks : List κ) : (addK k ks).length ≤ ks.length + 1 := by
  unfold addK
  split
  · omega
  · simp
theorem mem_addK {k x : κ} {ks : List κ} : x ∈ addK k ks ↔ x = k ∨ x ∈ ks := by
  unfold addK
  split
  · rename_i h
    exact ⟨.inr, fun q => q.elim (fun e => e ▸ h) id⟩
  · exact List.mem_cons
theorem mem_addAll {x : κ} : ∀ {r ks : List κ}, x ∈ addAll ks r ↔ x ∈ ks ∨ x ∈ r
  | [], ks => by simp [addAll]
  | k :: r, ks => by
    unfold addAll
    rw [mem_addAll, mem_addK, List.mem_cons]
    constructor
    · rintro ((h | h) | h)
      · exact .inr (.inl h)
      · exact .inl h
      · exact .inr (.inr h)
    · rintro (h | h | h)
      · exact .inl (.inr h)
      · exact .inl (.inl h)
      · exact .inr h
theorem set_loop (hfk : ∀ k v, knd.is k v = true → f v = k) {I : Addr} {fp wr : List Addr} {G : Array GenState → Array GenState → Prop} {n : Nat} {Pv : Nat → Value → Prop} {St : Nat → Shared → Prop} {R : Result → Shared → Prop}
    (W : WalksS P w A.in1 I fp wr G n Pv St) (S : Addr) (hSf : S ∉ fp) (zs : List κ) (hn : n = zs.length) (hval : ∀ i v, Pv i v → ∃ k, zs[i]? = some k ∧ knd.is k v = true ∧ v.scannable = true) :
    ∀ (k i : Nat) (s : Shared) (ks : List κ), n - i = k → i ≤ n → St i s → SetK knd f s.heap S ks → ks.length + (n - i) + 1 < scanBound →
      (∀ s', Moved (S :: wr) G s s' → SetK knd f s'.heap S (addAll ks (zs.drop i)) → R (.ok (.ret .none)) s') →
      codeAny (model P w) A (.builtin "set.update.loop" ⟨[.ref S, .ref I], []⟩) R s := by
  have hSw : S ∉ wr := fun h => hSf (W.sub _ h)
  have hsub : ∀ b ∈ wr, b ∈ S :: wr := fun b hb => List.mem_cons_of_mem _ hb
  intro k
  induction k with
  | zero =>
    intro i s ks hk' hi hst hS hb hR
    have hin : i = n := by omega
    subst hin
    refine codeAny_builtin F.entry_set_update_loop ?_
    rw [Around.under_plainId F.plain_set_update_loop _]
    show wpAny _ A.in1 (pyNext (.ref I) >>= _) _ _ s
    refine wpAny_bind (W.done s _ _ hst fun s' hm => ?_)
    show wpAny _ A.in1 (ret Value.none) _ _ s'
    have e : zs.drop i = [] := List.drop_of_length_le (by omega)
    rw [e] at hR
    exact wpAny_pure (hR s' (hm.mono hsub) (hS.at fun o e => hm.heap S o hSw e))
  | succ k ih =>
    intro i s ks hk' hi hst hS hb hR
    have hlt : i < n := by omega
    refine codeAny_builtin F.entry_set_update_loop ?_
    rw [Around.under_plainId F.plain_set_update_loop _]
    show wpAny _ A.in1 (pyNext (.ref I) >>= _) _ _ s
    refine wpAny_bind (W.item i s _ _ hlt hst fun v s' hP hst' hm => ?_)
    obtain ⟨z, hz, hkey, hsc⟩ := hval i v hP
    have hS' : SetK knd f s'.heap S ks := hS.at fun o e => hm.heap S o hSw e
    show wpAny _ A.in1 (holding [v] (setAdd S v) >>= _) _ _ s'
    refine wpAny_bind (wpAny_holding ?_)
    unfold setAdd
    refine wpAny_holding ?_
    refine wpAny_bind (knd.pyHash (k := z) hkey ?_)
    refine add_hashed hfk (s := { s' with toks := s'.toks + 1 }) hkey hsc hS' (by omega) fun b h' hsb hS2 => ?_
    have hl := addK_len z ks
    have hd : zs.drop i = z :: zs.drop (i + 1) := by
      obtain ⟨hl, e⟩ := List.getElem?_eq_some_iff.mp hz
      rw [List.drop_eq_getElem_cons hl, e]
    refine wpAny_pure ⟨plainId_quiet F.plain_set_update_loop _, ih (i + 1) _ (addK z ks) (by omega) hlt (W.frame _ s' _ _ hst' (Nat.le_succ _) fun b hb o e => ?_) hS2 (by omega) fun s'' hm'' hS'' => ?_⟩
    · rw [hsb.2 b (fun h : b = S => hSf (by rw [← h]; exact hb))]; exact e
    · rw [hd] at hR
      refine hR s'' (Moved.trans W.gtrans ((hm.mono hsub).then_heap (Nat.le_succ _) fun b o hb e => ?_) hm'') hS''
      rw [hsb.2 b (fun h : b = S => hb (by rw [h]; exact List.mem_cons_self))]; exact e
end
end Sk
end
section
namespace Sk
open PySem PySem.Spec PyProof.Rows L2
def strV (v : Value) : Str := match v with
  | .str x _ => x
  | _ => ⟨#[]⟩
section
variable {P : Program} {w : World} {A : Around} {E : Value → Shared → Prop} {s : Shared}
theorem strV_is (k : Str) (v : Value) (h : (strKind P w).is k v = true) : strV v = k := by
  have h' : Value.isStrOf k v = true := h
  cases v <;> simp [Value.isStrOf] at h'
  rename_i x t
  unfold strV
  exact h'.symm ▸ rfl
theorem isStr_self (k : Str) (u : Tok) : (strKind P w).is k (.str k u) = true := by
  show Value.isStrOf k (.str k u) = true
  simp [Value.isStrOf]
def signs (x : Str) : List Str := x.cps.toList.map fun c => ⟨#[c]⟩
theorem walksText (hh : A.handled = none) (it : Addr) (x : Str) (t : Tok) : Walks P w A it [it] [it] x.cps.size (SignAt x) (fun i h => h.IsStrIter it (strIterType x) x t i) := by
  cases ha : x.cps.all (· < 128)
  · simp only [strIterType, ha, Bool.false_eq_true, if_false]
    exact Walks.strWide hh it x t
  · simp only [strIterType, ha, if_true]
    exact Walks.strAscii hh it x t
theorem call_set_text {x : Str} {t : Tok} {Q : Value → Shared → Prop} (hh : A.handled = none) (hb : x.cps.size + 1 < scanBound)
    (h : ∀ (h' : Heap) (tk : Nat), SetK (strKind P w) strV h' s.heap.objs.size (addAll [] (signs x)) → (∀ b o, s.heap.get? b = some o → h'.get? b = some o) → Q (.ref s.heap.objs.size) { s with heap := h', toks := tk }) :
    wpAny (model P w) A (call (.type "set") [.str x t]) Q E s := by
  obtain ⟨c, tl, hmro⟩ := F.called_set.mro
  have hmade := F.called_set.made
  have hsub := F.called_set.sub
  refine wpAny_call (codeAny_of_tree ?_)
  show wpAny _ _ (callAny (.type "set") _) _ _ _
  refine wpAny_pure ⟨Code.quiet_builtin _ (by decide +kernel), codeAny_builtin F.entry_type_call ?_⟩
  rw [Around.under_plain (weight_type_call_type "set" [.str x t] []) rfl]
  have h1 := F.called_set.notType
  have h2 := F.called_set.canCreate
  have hct := F.typeCall_set_1 (.str x t)
  repeat (any_goals (first | assumption | wp_step))
  refine codeAny_mono (code_set_led1 (.str x t) (E := E) (Q₁ := fun obj s₁ => obj = .ref s.heap.objs.size ∧ s₁ = { s with heap := s.heap.push { cls := .type "set", dict := none, data := .set #[] 0 (.fresh 0 0 (!w.params.followText "set-order")) } }) ⟨rfl, rfl⟩) fun r s₁ hr => ?_
  cases r with
  | error e => exact hr
  | ok fl =>
    cases fl with
    | ret obj =>
      obtain ⟨rfl, rfl⟩ := hr
      have hS : (s.heap.push { cls := .type "set", dict := none, data := .set #[] 0 (.fresh 0 0 (!w.params.followText "set-order")) }).get? s.heap.objs.size = some { cls := .type "set", dict := none, data := .set #[] 0 (.fresh 0 0 (!w.params.followText "set-order")) } := Heap.get?_push_size _ rfl
      have hT : Shared.TypeIs { s with heap := s.heap.push { cls := .type "set", dict := none, data := .set #[] 0 (.fresh 0 0 (!w.params.followText "set-order")) } } (.ref s.heap.objs.size) "set" := ⟨_, hS, rfl⟩
      have hli := F.called_set.init.lookup
      have hbi := F.called_set.init.bind (.ref s.heap.objs.size)
      repeat (any_goals (first | assumption | wp_step))
      refine codeAny_mono (codeAny_call_builtin (R := wants (fun r s₂ => r = .none ∧ ∃ h' tk, s₂ = { s with heap := h', toks := tk } ∧ SetK (strKind P w) strV h' s.heap.objs.size (addAll [] (signs x)) ∧
          (∀ b o, s.heap.get? b = some o → h'.get? b = some o)) E) F.called_set.init.plain F.entry_set_init (check_set_init_1 hT ?_)) fun r₂ s₂ hr₂ => ?_
      · unfold Builtin.«set.__init__» noKeywords Builtin.Frozenset.updateFrom
        have hsls : isSubtype (.type "str") (.type "set") = pure false := by rw [isSubtype_type]; kernel_rfl
        have hslf : isSubtype (.type "str") (.type "frozenset") = pure false := by rw [isSubtype_type]; kernel_rfl
        have hne : (Value.type "str" == Value.type "dict") = false := by decide
        generalize hPI : pyIter = PI
        wp_walk
        subst hPI
        refine wpAny_pyIter_strU ?_
        refine wpAny_bind (wpAny_runValue ?_)
        have hh3 : A.in1.in1.in1.handled = none := by simp [hh]
        have hSf : s.heap.objs.size ∉ [(s.heap.push { cls := .type "set", dict := none, data := .set #[] 0 (.fresh 0 0 (!w.params.followText "set-order")) }).objs.size] := by
          rw [Heap.size_push]; simp only [List.mem_singleton]
          exact Nat.ne_of_lt (Nat.lt_succ_self _)
        have hget : ((s.heap.push { cls := .type "set", dict := none, data := .set #[] 0 (.fresh 0 0 (!w.params.followText "set-order")) }).push { cls := .type (strIterType x), data := .fields #[.str x t, .int 0 0] }).get? s.heap.objs.size
              = some { cls := .type "set", dict := none, data := .set #[] 0 (.fresh 0 0 (!w.params.followText "set-order")) } := Heap.get?_push_of_some _ hS
        refine set_loop (knd := strKind P w) (f := strV) strV_is ((walksText hh3 _ x t).toS) s.heap.objs.size hSf (signs x) (by unfold signs; simp) (fun i v hv => ?_) (x.cps.size - 0) 0 _ [] (by omega) (Nat.zero_le _)
          ⟨_, Heap.get?_push_size _ rfl, rfl, rfl⟩ (SetK.new hget) (by simpa using hb) fun s' hm hS' => ?_
        · obtain ⟨c, u, hc, rfl⟩ := hv
          exact ⟨⟨#[c]⟩, by unfold signs; simp [hc], isStr_self _ _, rfl⟩
        · obtain ⟨h', g2, d', tk', os'⟩ := s'
          have eg : g2 = s.gens := hm.gens
          have ed : d' = s.drawn := hm.drawn
          have eo : os' = s.os := hm.os
          subst eg; subst ed; subst eo
          refine wpAny_pure ?_
          show wpAny _ _ (ret Value.none) _ _ _
          refine wpAny_pure ⟨rfl, h', tk', rfl, by simpa using hS', fun b o e => ?_⟩
          have hb0 : b < s.heap.objs.size := Heap.lt_size e
          have hb1 : b ≠ s.heap.objs.size := Nat.ne_of_lt hb0
          have hb2 : b ≠ (s.heap.push { cls := .type "set", dict := none, data := .set #[] 0 (.fresh 0 0 (!w.params.followText "set-order")) }).objs.size := by
            rw [Heap.size_push]; exact Nat.ne_of_lt (Nat.lt_succ_of_lt hb0)
          exact hm.heap b o (by simp only [List.mem_cons, List.mem_singleton, List.not_mem_nil, or_false, not_or]; exact ⟨hb1, hb2⟩) (Heap.get?_push_of_some _ (Heap.get?_push_of_some _ e))
      · cases r₂ with
        | error e => exact hr₂
        | ok fl₂ =>
          cases fl₂ with
          | ret r =>
            obtain ⟨rfl, h', tk, rfl, hS', hk'⟩ := hr₂
            repeat (any_goals (first | assumption | wp_step))
            exact h _ _ hS' hk'
          | _ => exact hr₂.elim
    | _ => exact hr.elim
end
end Sk
end
section
/-! sorted(..): lists of data that compare; a text's signs without doubles. -/
namespace Dn
open PySem PySem.Spec PyProof.Rows L2 Sk
open PySem.W (AllAlike Sortable dataLe alike EachIs)
def encD (d : Dt) : PyData := (toPy d).getD .none
/-- one row of data that sorts -/
structure Srts (ds : List Dt) : Prop where
  py : ∀ d ∈ ds, ∃ p, toPy d = some p
  al : AllAlike (ds.map encD)
  st : Sortable (ds.map encD)
  dp : ∀ d ∈ ds, (encD d).depth ≤ 64
  ln : ds.length ≤ sizeLine
def srtD (ds : List Dt) : List Dt := ds.mergeSort (dataLe false encD)
theorem srt_zip {k : Kp} {D : Hp} {xs : List V} {ds : List Dt} (r : RpL k D xs ds) : ∃ bs : List (V × Dt), bs.map Prod.fst = xs ∧ bs.map Prod.snd = ds ∧ ∀ b ∈ bs, Rp k D b.1 b.2 := by
  induction ds generalizing xs with
  | nil => cases r; exact ⟨[], rfl, rfl, fun _ h => nomatch h⟩
  | cons d ds ih =>
    cases r with
    | cons h r =>
      obtain ⟨bs, e1, e2, e3⟩ := ih r
      exact ⟨(_, d) :: bs, by simp [e1], by simp [e2], fun b hb => (List.mem_cons.mp hb).elim (fun e => e ▸ h) (e3 b)⟩
theorem rpl_of_pairs {k : Kp} {D : Hp} : ∀ {bs : List (V × Dt)}, (∀ b ∈ bs, Rp k D b.1 b.2) → RpL k D (bs.map Prod.fst) (bs.map Prod.snd)
  | [], _ => .nil
  | b :: bs, h => .cons (h b List.mem_cons_self) (rpl_of_pairs fun c hc => h c (List.mem_cons_of_mem _ hc))
theorem srt_map {bs : List (V × Dt)} : (bs.mergeSort (dataLe false fun b => encD b.2)).map Prod.snd = srtD (bs.map Prod.snd) :=
  List.map_mergeSort (f := Prod.snd) fun a _ b _ => by rw [PySem.W.dataLe_eq, PySem.W.dataLe_eq]
/-- sorted(a list): at the values -/
def rSrt (k : Kp) : List V → Hp → VK → Prop := fun vs H Q => ∃ (a : Addr) (bs : List (V × Dt)), vs = [.ref a] ∧ SqL k.K H a (bs.map Prod.fst) ∧ (∀ b ∈ bs, Rp k H b.1 b.2) ∧ Srts (bs.map Prod.snd) ∧
  ∀ p, H p = none → Q (.ref p) (upd H p (.lst ((bs.mergeSort (dataLe false fun b => encD b.2)).map Prod.fst)))
theorem each_vals {bs : List (V × Dt)} {its : List Value} (rv : Vals (bs.map Prod.fst) its) : EachIs (fun v (b : V × Dt) => RelV b.1 v) its bs := by
  induction bs generalizing its with
  | nil => cases rv; exact .nil
  | cons b bs ih =>
    cases rv with
    | cons h t => exact .cons h (ih t)
theorem vals_each {bs : List (V × Dt)} {its : List Value} (e : EachIs (fun v (b : V × Dt) => RelV b.1 v) its bs) : Vals (bs.map Prod.fst) its := by
  induction e with
  | nil => exact .nil
  | cons h _ ih => exact .cons h ih
theorem each_len {α β : Type} {R : α → β → Prop} {as : List α} {bs : List β} (e : EachIs R as bs) : as.length = bs.length := by
  induction e with
  | nil => rfl
  | cons _ _ ih => simp [ih]
theorem enc_dp {k : Kp} {H : Hp} {v : V} {d : Dt} (r : Rp k H v d) (h : ∃ p, toPy d = some p) : Dp k.K H v (encD d) := by
  obtain ⟨p, e⟩ := h
  unfold encD
  rw [e]
  exact dp_of d r e
section
variable {X : Cx} {pins : List (Addr × Obj)} {σ : L2.St} {H : Hp} {s : Shared} {k : Kp}
theorem each_reads (hK : k.K = X.K) (I : Inv X pins σ H s) : ∀ {bs : List (V × Dt)} {its : List Value}, Vals (bs.map Prod.fst) its → (∀ b ∈ bs, Rp k H b.1 b.2) → (∀ b ∈ bs, ∃ p, toPy b.2 = some p) →
    EachIs (fun v (b : V × Dt) => ∃ as, Reads s.heap v (encD b.2) as) its bs
  | [], _, .nil, _, _ => .nil
  | b :: bs, _, .cons h t, hr, hp => .cons (Dp.reads I _ _ _ (hK ▸ enc_dp (hr b List.mem_cons_self) (hp b List.mem_cons_self)) h) (each_reads hK I t (fun c hc => hr c (List.mem_cons_of_mem _ hc)) fun c hc => hp c (List.mem_cons_of_mem _ hc))
theorem srts_pairs {bs : List (V × Dt)} (S : Srts (bs.map Prod.snd)) : (∀ b ∈ bs, ∃ p, toPy b.2 = some p) ∧ AllAlike (bs.map fun b => encD b.2) ∧ Sortable (bs.map fun b => encD b.2) ∧ ∀ b ∈ bs, (encD b.2).depth ≤ 64 := by
  have e : (bs.map fun b => encD b.2) = (bs.map Prod.snd).map encD := by rw [List.map_map] <;> rfl
  exact ⟨fun b hb => S.py _ (List.mem_map.mpr ⟨b, hb, rfl⟩), e ▸ S.al, e ▸ S.st, fun b hb => S.dp _ (List.mem_map.mpr ⟨b, hb, rfl⟩)⟩
end
theorem cr_srt {X : Cx} {k : Kp} {lv : Nat} (hK : k.K = X.K) (hr : RoomU lv X.A) : CallR X (.builtin "sorted") (rSrt k) := by
  intro pins s σ H vs us Q I r h
  obtain ⟨a, bs, rfl, hs, hrp, hS, q⟩ := h
  rw [hK] at hs
  obtain ⟨its, rv, hl, hz⟩ := I.list hs
  rw [Vals.ref1 r]
  obtain ⟨s1, s2, s3, s4⟩ := srts_pairs hS
  have hln : bs.length ≤ sizeLine := by have := hS.ln; rwa [List.length_map] at this
  refine PySem.W.sorted_data (enc := fun b : V × Dt => encD b.2) (R := fun v b => RelV b.1 v) hl.isList (each_vals rv) (each_reads hK I rv hrp s1) s2 s3 hln (fun b hb => ?_) fun out hol ho => ?_
  · have h1 := s4 b hb
    have h2 := hr.un
    have h3 : X.A.units + 200 < cLine := by omega
    show X.A.units + 2 + _ < cLine
    omega
  · obtain ⟨ep, he'⟩ := PyProof.Rows.sortedAll_at s.heap its (List.toArray out)
    have hlen : ((bs.mergeSort (dataLe false fun b => encD b.2)).map Prod.fst).length ≤ sizeLine := by
      rw [List.length_map, ← each_len ho, hol]; exact hln
    exact ⟨.ref _, upd H (s.heap.objs.size + 1) (.lst ((bs.mergeSort (dataLe false fun b => encD b.2)).map Prod.fst)), I.laid (t' := s.toks) (fun _ _ => PyProof.Rows.sortedAll_old) (Nat.le_succ _) ⟨hlen, out, ep, vals_each ho, he'⟩, rfl, q _ (I.hok.fresh (Nat.le_succ _))⟩
open Classical in
noncomputable def oSort : List Dt → Option Ow
  | [.lst ds] => if Srts ds then some (.lst (srtD ds)) else none
  | _ => none
section
variable {F : Fc}
theorem df_sorted {p pos : PySem.Pos} {e : Expr} {ga : GA} (hg : F.sc.names.lookup ("sorted" : Str) = some .globalImplicit) (hm : F.mg "sorted" = none) (h : DL F [e] ga) (hs : ∀ env, starEach [e] env = (false, eval e env) :: starEach [] env := by intro _; rfl) :
    DF F (.Call (.Name "sorted" p) [e] [] pos) (gArgsF oSort ga) := by
  refine df_callB (r := fun xs H1 Q => ∃ k : Kp, k.K = F.K ∧ rSrt k xs H1 Q) (id := "sorted") (fun X O pins s σ H xs us Q I r h => ?_) (fun k hK hc D H xs as z u r ez Q q => ?_) (by kernel_rfl) hg hm h (hs := hs)
  · obtain ⟨k, hK, h⟩ := h
    exact cr_srt (hK.trans O.K.symm) O.room pins s σ H xs us Q I r h
  · unfold oSort at ez
    split at ez
    · split at ez
      · cases ez
        rename_i ds hS
        obtain ⟨v, rfl, rv⟩ := one_rp r
        cases rv with
        | lst hd rl =>
          obtain ⟨bs, e1, e2, e3⟩ := srt_zip rl
          subst e1 e2
          refine ⟨k, hK, _, bs, rfl, .inl (.inl (u _ _ hd)), fun b hb => (e3 b hb).mono u, hS, fun p hp => ?_⟩
          refine q p D _ [p] (Ex.hid u hp) (fun C eC => ⟨rfl, _, upd_same, ?_⟩) (by simp) (one_new u hp)
          have hr := rpl_of_pairs (k := k) (D := D) (bs := bs.mergeSort (dataLe false fun b => encD b.2)) fun b hb => e3 b (List.mem_mergeSort.mp hb)
          rw [srt_map] at hr
          rw [eC]
          exact hr
      · cases ez
    · cases ez
end
end Dn
end
section
/-! sorted(set(a text)). -/
namespace Dn
open PySem PySem.Spec PyProof.Rows L2 Sk
open PySem.W (AllAlike Sortable dataLe alike EachIs)
def leS (a b : Str) : Bool := decide (a.cps.toList ≤ b.cps.toList)
def srtS (xs : List Str) : List Str := xs.mergeSort leS
theorem leS_trans (a b c : Str) : leS a b = true → leS b c = true → leS a c = true := by
  unfold leS
  rw [decide_eq_true_eq, decide_eq_true_eq, decide_eq_true_eq]
  exact fun h g => List.le_trans h g
theorem leS_total (a b : Str) : (leS a b || leS b a) = true := by
  unfold leS
  rcases List.le_total (l₁ := a.cps.toList) (l₂ := b.cps.toList) with h | h
  · simp [h]
  · simp [h]
theorem leS_anti {a b : Str} (h : leS a b = true) (g : leS b a = true) : a = b := by
  unfold leS at h g
  have e := List.le_antisymm (of_decide_eq_true h) (of_decide_eq_true g)
  cases a; cases b
  simp only [Str.mk.injEq]
  exact Array.toList_inj.mp e
theorem srtS_perm {xs ys : List Str} (h : xs.Perm ys) : srtS xs = srtS ys :=
  List.Perm.eq_of_pairwise (le := fun a b => leS a b = true) (fun a b _ _ => leS_anti) (List.pairwise_mergeSort leS_trans leS_total xs) (List.pairwise_mergeSort leS_trans leS_total ys)
    ((List.mergeSort_perm xs leS).trans (h.trans (List.mergeSort_perm ys leS).symm))
def SetXO (P : Program) (w : World) (a : Addr) (ks : List Str) : HO := .ext fun h => SetK (strKind P w) strV h a ks
section
variable {X : Cx}
def rSetX (P : Program) (w : World) : List V → Hp → VK → Prop := fun vs H Q => ∃ x : Str, vs = [.str x] ∧ x.cps.size + 1 < scanBound ∧ ∀ p, H p = none → Q (.ref p) (upd H p (SetXO P w p (addAll [] (Sk.signs x))))
theorem setX_new {P : Program} {w : World} {H : Hp} {h : Heap} {a : Addr} {ks : List Str} (R : SetK (strKind P w) strV h a ks) : ObjOk P w H h a (SetXO P w a ks) := by
  refine ⟨R, ?_, fun h1 h2 p k => p.at k⟩
  obtain ⟨o, es, ep, t, ho, _⟩ := R
  exact ⟨o, ho⟩
theorem cr_setX (hc : X.calm = true) : CallR X (.type "set") (rSetX X.prog X.w) := by
  intro pins s σ H vs us Q I r h
  obtain ⟨x, rfl, hb, q⟩ := h
  cases r with
  | cons r rr =>
    cases rr
    obtain ⟨t, rfl⟩ := r
    refine call_set_text (I.ok.hd hc) hb fun h' tk R hk => ?_
    exact ⟨.ref _, upd H s.heap.objs.size (SetXO X.prog X.w s.heap.objs.size (addAll [] (Sk.signs x))), I.laid (t' := tk) hk (Nat.le_refl _) (setX_new R), rfl, q _ (I.hok.fresh (Nat.le_refl _))⟩
/-- sorted(a set of texts) -/
def rSrtX (P : Program) (w : World) : List V → Hp → VK → Prop := fun vs H Q => ∃ (a : Addr) (ks : List Str), vs = [.ref a] ∧ H a = some (SetXO P w a ks) ∧ ∀ p, H p = none → Q (.ref p) (upd H p (.lst ((srtS ks).map V.str)))
theorem each_str {P : Program} {w : World} : ∀ {vs : List Value} {ks : List Str}, vs.map strV = ks → (∀ v ∈ vs, ∃ k, (strKind P w).is k v = true) → EachIs (fun v (k : Str) => RelV (.str k) v) vs ks
  | [], _, rfl, _ => .nil
  | v :: vs, _, rfl, h => by
    refine .cons ?_ (each_str rfl fun u hu => h u (List.mem_cons_of_mem _ hu))
    obtain ⟨k, hk⟩ := h v List.mem_cons_self
    have hk' : Value.isStrOf k v = true := hk
    cases v <;> simp [Value.isStrOf] at hk'
    rename_i x t
    exact ⟨t, rfl⟩
theorem each_rd {h : Heap} : ∀ {vs : List Value} {ks : List Str}, EachIs (fun v (k : Str) => RelV (.str k) v) vs ks → EachIs (fun v (k : Str) => ∃ as, Reads h v (.str k) as ∧ ∀ a : Addr, a ∉ as) vs ks
  | _, _, .nil => .nil
  | _, _, .cons ⟨t, e⟩ r => .cons ⟨[], e ▸ .str _ _, fun _ z => nomatch z⟩ (each_rd r)
theorem vals_strs {vs : List Value} {ks : List Str} (e : EachIs (fun v (k : Str) => RelV (.str k) v) vs ks) : Vals (ks.map V.str) vs := by
  induction e with
  | nil => exact .nil
  | cons h _ ih => exact .cons h ih
theorem srtS_data (ks : List Str) : ks.mergeSort (dataLe false fun k => PyData.str k) = srtS ks := by
  have e := PySem.W.dataLe_str (fun k : Str => k)
  unfold srtS
  have e2 : (dataLe false fun k : Str => PyData.str k) = leS := e
  rw [e2]
theorem cr_srtX {lv : Nat} (hc : X.calm = true) (hr : Room lv X.A) : CallR X (.builtin "sorted") (rSrtX X.prog X.w) := by
  intro pins s σ H vs us Q I r h
  obtain ⟨a, ks, rfl, ha, q⟩ := h
  have R : SetK (strKind X.prog X.w) strV s.heap a ks := (I.hok a _ ha).1
  rw [Vals.ref1 r]
  obtain ⟨o, es, ep, t, ho, hex, hd, hel, pm, nd, hb, hf, hri, hl⟩ := R
  refine Calls.call_function_entry PyProof.Rows.kind_sorted PyProof.Rows.plain_sorted PyProof.Rows.entry_sorted (PyProof.Rows.args_sorted1 _) ?_
  unfold Builtin.«sorted»
  refine wpAny_bind (m := checkCount "sorted" 1 1 _) (wpAny_pure ?_)
  refine wpAny_bind (collect_set (A := X.A.in1) (I.ok.hd hc) ⟨o, ho, hex.1, hd⟩ hf hb hri hl fun s1 vs k1 hz g1 o1 pv => ?_)
  have hvl : vs.length < scanBound := by rw [pv.length_eq, List.length_map, Array.length_toList]; exact hb
  have hvs : vs.length ≤ sizeLine := fits_of_scanBound hvl
  have ek : EachIs (fun v (k : Str) => RelV (.str k) v) vs (vs.map strV) := each_str (P := X.prog) (w := X.w) rfl fun v hv => by
    obtain ⟨e, he, rfl⟩ := List.mem_map.mp (pv.mem_iff.mp hv)
    obtain ⟨⟨k, hk, _⟩, _⟩ := hel e he
    exact ⟨k, hk⟩
  have pk : (vs.map strV).Perm ks := by
    have q := pv.map strV
    rw [List.map_map] at q
    exact q.trans pm
  refine wpAny_bind (wpAny_newList ?_ hvs)
  have hoL : (s1.heap.push (seqObj "list" vs.toArray 0)).get? s1.heap.objs.size = some (seqObj "list" vs.toArray 0) := Heap.get?_push_size _ rfl
  refine wpAny_bind (wpAny_holding (PySem.W.list_sort_data (enc := fun k : Str => PyData.str k) (R := fun v k => RelV (.str k) v) hoL ek
    ((each_rd ek).mono fun v k ⟨as, r, hn⟩ => ⟨as, r, hn _⟩) (PySem.W.AllAlike.of fun b b' => by simp [alike]) (PySem.W.Sortable.others fun b => ⟨by simp, fun xs => by simp⟩) (by rw [List.length_map]; exact hvs) (fun b _ => ?_) fun out hol he => ?_))
  · have h3 := hr.un
    show X.A.units + 1 + 1 + (PyData.str b).depth < cLine
    have : (PyData.str b).depth = 0 := by simp [PyData.depth]
    omega
  · obtain ⟨c, hc'⟩ := PyProof.Rows.sortedHeap_at (vs := vs) (out := List.toArray out) hoL
    rw [srtS_data, srtS_perm pk] at he
    have hn : H s1.heap.objs.size = none := I.hok.fresh hz
    have hlen : ((srtS ks).map V.str).length ≤ sizeLine := by
      rw [List.length_map, ← each_len he, hol, List.length_map]; exact hvs
    have up : ∀ b u, s.heap.get? b = some u → (sortedHeap (s1.heap.push (seqObj "list" vs.toArray 0)) s1.heap.objs.size vs (List.toArray out)).get? b = some u := fun b u e => by
      have q := k1 b u e
      have hlt := Heap.lt_size q
      rw [PyProof.Rows.sortedHeap_old (Nat.ne_of_lt hlt) (by rw [size_push']; exact Nat.lt_succ_of_lt hlt)]
      exact Heap.get?_push_of_some _ q
    refine wpAny_pure ⟨_, rfl, ?_⟩
    obtain ⟨h1, gg1, dd1, tt1, oo1⟩ := s1
    dsimp only at g1 o1
    subst g1 o1
    have J : L2.Inv X pins σ (upd H h1.objs.size (.lst ((srtS ks).map V.str))) { s with heap := sortedHeap (h1.push (seqObj "list" vs.toArray 0)) h1.objs.size vs (List.toArray out), drawn := dd1, toks := tt1 } :=
      I.call (ch := []) (Un.laid up hz hn) (I.hok.laid up hz ⟨hlen, out, c, vals_strs he, hc'⟩) I.bare (fun _ z => nomatch z)
    exact ⟨.ref _, _, J, rfl, q _ hn⟩
end
/-- sorted(set(text)) -/
def oSrtX : List Dt → Option Ow
  | [.str x] => if x.cps.size + 1 < scanBound then some (.lst ((srtS (addAll [] (Sk.signs x))).map .str)) else none
  | _ => none
theorem rpl_strs {k : Kp} {D : Hp} : ∀ xs : List Str, RpL k D (xs.map V.str) (xs.map Dt.str)
  | [] => .nil
  | x :: xs => .cons (.str x) (rpl_strs xs)
theorem df_srtX {F : Fc} {p p2 pos pos2 : PySem.Pos} {e : Expr} {ga : GA} (hc : F.calm = true) (hg : F.sc.names.lookup ("sorted" : Str) = some .globalImplicit) (hm : F.mg "sorted" = none) (hg2 : F.sc.names.lookup ("set" : Str) = some .globalImplicit) (hm2 : F.mg "set" = none) (h : DL F [e] ga)
    (hs : ∀ env, starEach [e] env = (false, eval e env) :: starEach [] env := by intro _; rfl) (hs2 : ∀ env, starEach [Expr.Call (.Name "set" p2) [e] [] pos2] env = (false, eval (.Call (.Name "set" p2) [e] [] pos2) env) :: starEach [] env := by intro _; rfl) :
    DF F (.Call (.Name "sorted" p) [.Call (.Name "set" p2) [e] [] pos2] [] pos) (gArgsF oSrtX ga) := by
  obtain ⟨t, a1, a2⟩ := h.ex
  refine ⟨⟨fun W => tCB (rSrtX F.P F.w) (tCons (tCB (rSetX F.P F.w) (t W)) tNil), fun X W O T => ?_, fun W => den_argsF (a2 W) (r := fun xs H1 Q => rSetX F.P F.w xs H1 fun v H2 => rSrtX F.P F.w [v] H2 Q) fun k hK hc D H xs as z u r ez Q q => ?_⟩⟩
  · rw [← O.prog, ← O.w]
    have h1 : PE X (.Call (.Name "set" p2) [e] [] pos2) (tCB (rSetX X.prog X.w) (t W)) := pe_callTy (cr_setX (O.calm hc)) (by show X.env.scope.names.lookup _ = _; rw [O.sc]; exact hg2) (by rw [O.mg]; exact hm2) (by kernel_rfl) (a1 X W O T) (by decide +kernel) (by decide +kernel) (hs _)
    exact pe_callB (cr_srtX (O.calm hc) (O.full hc)) (by show X.env.scope.names.lookup _ = _; rw [O.sc]; exact hg) (by rw [O.mg]; exact hm) (by kernel_rfl) (pa_cons h1 pa_nil (hs2 _)) (by decide +kernel) (by decide +kernel) (hs2 _)
  · unfold oSrtX at ez
    split at ez
    · split at ez
      · cases ez
        rename_i x hb
        obtain ⟨v, rfl, rv⟩ := one_rp r
        cases rv
        refine ⟨x, rfl, hb, fun a ha => ⟨a, _, rfl, upd_same, fun p hp => ?_⟩⟩
        have x1 : Ex D H D (upd H a (SetXO F.P F.w a (addAll [] (Sk.signs x)))) := Ex.hid u ha
        have x2 : Ex D (upd H a (SetXO F.P F.w a (addAll [] (Sk.signs x)))) D (upd (upd H a (SetXO F.P F.w a (addAll [] (Sk.signs x)))) p (.lst ((srtS (addAll [] (Sk.signs x))).map V.str))) := Ex.hid x1.up hp
        refine q p D _ [p] (x1.trans x2) (fun C eC => ⟨rfl, _, upd_same, by rw [eC]; exact rpl_strs _⟩) (by simp) fun b hb => ?_
        rw [List.mem_singleton.mp hb]
        exact ⟨none_of x1.kp hp, none_of x1.up hp⟩
      · cases ez
    · cases ez
end Dn
end
section
/-! sorted(xs, key=lambda one: (len(one), one)), sorted(xs, key=lambda one: 0 - len(one)). -/
namespace Sx
open PySem PySem.Spec PyProof.Rows L2
open PySem.W (AllAlike Sortable dataLe alike EachIs KeyPure)
/-- the lambda's frame at L, the parameter p bound to v -/
structure Fr1 (mg : Str → Option Value) (env : Env) (p : Str) (v : Value) (h : Heap) : Prop where
  kind : env.scope.kind = .function
  len : env.scope.names.lookup ("len" : Str) = some .globalImplicit
  loc : env.scope.names.lookup p = some .local
  gl : env.globals = mainGlobals
  bl : env.builtins = builtinsNs
  glob : h.Ns mainGlobals mg
  blt : ∃ mb, h.Ns builtinsNs mb ∧ mb ("len" : Str) = bootBuiltins "len"
  ns : ∃ m, h.Ns env.locals m ∧ m p = some v
section
variable {P : Program} {w : World} {A : Around} {E : Value → Shared → Prop} {mg : Str → Option Value} {env : Env} {p : Str}
theorem Fr1.name {v : Value} {s : Shared} {q : Pos} {Q : Value → Shared → Prop} (F : Fr1 mg env p v s.heap) (hd : (p == ("__debug__" : Str)) = false) (h : Q v s) : wpAny (model P w) A (eval (.Name p q) env) Q E s := by
  obtain ⟨m, hn, hv⟩ := F.ns
  exact wpAny_Name (wpAny_loadName_local F.kind F.loc hn hv h) hd
end
end Sx
namespace Dn
open PySem PySem.Spec PyProof.Rows L2 Sx
open PySem.W (AllAlike Sortable dataLe alike EachIs KeyPure)
def strsOf : List Dt → Option (List Str)
  | [] => some []
  | .str x :: r => (strsOf r).map (x :: ·)
  | _ => none
theorem strsOf_rp {k : Kp} {D : Hp} : ∀ {ds : List Dt} {vs : List V} {xs : List Str}, RpL k D vs ds → strsOf ds = some xs → vs = xs.map V.str
  | [], _, _, .nil, e => by cases e; rfl
  | .str x :: r, _, _, .cons h t, e => by
    unfold strsOf at e
    cases q : strsOf r with
    | none => rw [q] at e; cases e
    | some ys =>
      rw [q] at e
      cases e
      cases h
      rw [strsOf_rp t q] <;> rfl
  | .non :: r, _, _, .cons h t, e => by simp [strsOf] at e
  | .bl _ :: r, _, _, .cons h t, e => by simp [strsOf] at e
  | .int _ :: r, _, _, .cons h t, e => by simp [strsOf] at e
  | .tup _ :: r, _, _, .cons h t, e => by simp [strsOf] at e
  | .lst _ :: r, _, _, .cons h t, e => by simp [strsOf] at e
  | .dic _ :: r, _, _, .cons h t, e => by simp [strsOf] at e
  | .dicF _ :: r, _, _, .cons h t, e => by simp [strsOf] at e
  | .obj _ _ :: r, _, _, .cons h t, e => by simp [strsOf] at e
  | .dicT _ :: r, _, _, .cons h t, e => by simp [strsOf] at e
  | .wd :: r, _, _, .cons h t, e => by simp [strsOf] at e
  | .scr _ :: r, _, _, .cons h t, e => by simp [strsOf] at e
  | .emp :: r, _, _, .cons h t, e => by simp [strsOf] at e
end Dn
end
section
/-! Owned slots: written in place, lent to an expression, handed on. -/
namespace Dn
open PySem L2
/-! ### a slot that owns -/
theorem SlotsOk.own {C : Ct} {D H : Hp} {o : Ow} : ∀ {ss : List Sl} {σ : St} {fp : List Addr} {i : Nat}, SlotsOk C D H ss σ fp → ss[i]? = some (.own o) →
    ∃ p f1 f2 f3, fp = f1 ++ (f2 ++ f3) ∧ σ[i]? = some (some (.ref p)) ∧ OwnAt C D H p o f2 ∧ (∀ o' D' H', Sub D D' → (∀ q ∈ f1 ++ f3, ∀ u, H q = some u → H' q = some u) → OwnAt C D' H' p o' f2 → SlotsOk C D' H' (ss.set i (.own o')) σ fp) ∧
      (∀ s' D' H' fx, Sub D D' → (∀ q ∈ f1 ++ f3, ∀ u, H q = some u → H' q = some u) → SlotOk C D' H' s' (some (.ref p)) fx → SlotsOk C D' H' (ss.set i s') σ (f1 ++ (fx ++ f3)))
  | [], [], _, _, _, e => by simp at e
  | a :: ss, x :: xs, fp, 0, ⟨f1, f2, ef, h, r⟩, e => by
    simp at e
    subst e
    obtain ⟨p, ex, ow⟩ := h
    subst ex
    refine ⟨p, [], f1, f2, by simp [ef], by simp, ow, fun o' D' H' s k ow' => ⟨f1, f2, ef, ⟨p, rfl, ow'⟩, r.mono s fun q hq u e => k q (by simp [hq]) u e⟩, fun s' D' H' fx s k sl => ⟨fx, f2, rfl, sl, r.mono s fun q hq u e => k q (by simp [hq]) u e⟩⟩
  | a :: ss, x :: xs, fp, i + 1, ⟨f1, f2, ef, h, r⟩, e => by
    simp at e
    obtain ⟨p, g1, g2, g3, eg, hx, ow, hk, hk2⟩ := r.own e
    refine ⟨p, f1 ++ g1, g2, g3, by rw [ef, eg]; simp, by simpa using hx, ow, fun o' D' H' s k ow' => ?_, fun s' D' H' fx s k sl => ?_⟩
    · exact ⟨f1, f2, ef, h.mono s fun q hq u e => k q (by simp [hq]) u e, hk o' D' H' s (fun q hq u e => k q (by
        rcases List.mem_append.mp hq with z | z
        · simp [z]
        · simp [z]) u e) ow'⟩
    · refine ⟨f1, g1 ++ (fx ++ g3), by simp, h.mono s fun q hq u e => k q (by simp [hq]) u e, hk2 s' D' H' fx s (fun q hq u e => k q (by
        rcases List.mem_append.mp hq with z | z
        · simp [z]
        · simp [z]) u e) sl⟩
  | [], _ :: _, _, _, h, _ => h.elim
  | _ :: _, [], _, _, h, _ => h.elim
section
variable {C : Ct} {env : Env} {w : Ds} {σ : St} {D H : Hp}
/-- a list that is owned: read, written in place -/
theorem Sta.putL (S : Sta C env w σ D H []) {i : Nat} {ds : List Dt} (e : env[i]? = some (.own (.lst ds))) : ∃ p vs, σ[i]? = some (some (.ref p)) ∧ H p = some (.lst vs) ∧ RpL C.k D vs ds ∧
    ∀ vs' ds', RpL C.k D vs' ds' → Sta C (env.set i (.own (.lst ds'))) w σ D (upd H p (.lst vs')) [] := by
  obtain ⟨fp, h1, h2, h3⟩ := S.sl
  obtain ⟨p, f1, f2, f3, ef, hx, ow, hk, _⟩ := h1.own e
  obtain ⟨e2, vs, hp, r⟩ := ow
  subst e2
  have hfr := h3 p (by rw [ef]; simp)
  refine ⟨p, vs, hx, hp, r, fun vs' ds' r' => ?_⟩
  have nd : ∀ q ∈ f1 ++ f3, q ≠ p := fun q hq z => by
    rw [List.nil_append, ef, List.nodup_append] at h2
    subst z
    rcases List.mem_append.mp hq with z | z
    · exact h2.2.2 q z q (by simp) rfl
    · have := (List.nodup_cons.mp h2.2.1).1
      exact this z
  refine ⟨fun a u e => ?_, S.d0, fun b u hb e => ?_, S.nw, S.wd.put hp hfr.2.2 (fun c q z => by unfold LamX.CodeO at z; cases z), fp, ?_, h2, h3⟩
  · rw [upd_ne fun z => by rw [z, hfr.1] at e; cases e]
    exact S.up a u e
  · rw [upd_ne fun z => by rw [z, hfr.2.1] at e; cases e]
    exact S.kp b u hb e
  · refine hk (.lst ds') D _ (Sub.refl _) (fun q hq u e => ?_) ⟨rfl, vs', upd_same, r'⟩
    rw [upd_ne (nd q hq)]
    exact e
end
/-! ### lending -/
mutual
def flat : Dt → Bool
  | .non => true
  | .bl _ => true
  | .int _ => true
  | .str _ => true
  | .tup xs => flats xs
  | .wd => true
  | .emp => true
  | _ => false
def flats : List Dt → Bool
  | [] => true
  | x :: xs => flat x && flats xs
end
section
variable {k : Kp} {D D' : Hp}
mutual
theorem flat_rp (s : ∀ a o, D a = some o → (∃ xs, o = .tup xs) ∨ (∃ u xs, o = .frz u (.tup xs)) ∨ (∃ ys, o = .xd ys) → D' a = some o) : ∀ {d : Dt} {v : V}, flat d = true → Rp k D v d → Rp k D' v d
  | .non, _, _, .non => .non
  | .bl _, _, _, .bl b => .bl b
  | .int _, _, _, .int i => .int i
  | .str _, _, _, .str x => .str x
  | .tup xs, _, f, .tup h r => .tup (s _ _ h (.inl ⟨_, rfl⟩)) (flats_rp s (by simpa [flat] using f) r)
  | .wd, _, _, .wd e => .wd e
  | .emp, _, _, .emp e => .emp e
  | .lst _, _, f, _ => by simp [flat] at f
  | .dic _, _, f, _ => by simp [flat] at f
  | .dicT _, _, f, _ => by simp [flat] at f
  | .dicF _, _, f, _ => by simp [flat] at f
  | .obj _ _, _, f, _ => by simp [flat] at f
  | .scr _, _, f, _ => by simp [flat] at f
theorem flats_rp (s : ∀ a o, D a = some o → (∃ xs, o = .tup xs) ∨ (∃ u xs, o = .frz u (.tup xs)) ∨ (∃ ys, o = .xd ys) → D' a = some o) : ∀ {ds : List Dt} {vs : List V}, flats ds = true → RpL k D vs ds → RpL k D' vs ds
  | [], _, _, .nil => .nil
  | d :: ds, _, f, .cons h r => by
    have f' : flat d = true ∧ flats ds = true := by simpa [flats] using f
    exact .cons (flat_rp s f'.1 h) (flats_rp s f'.2 r)
end
end
/-- all owned things as data -/
def lendS : Sl → Sl
  | .own o => .dat o.dt
  | s => s
def lendA (env : Env) : Env := env.map lendS
theorem ownAt_kind {C : Ct} {D H : Hp} {p a : Addr} {u : HO} : ∀ {o : Ow} {fp : List Addr}, OwnAt C D H p o fp → a ∈ fp → H a = some u → (∃ xs, u = .tup xs) ∨ (∃ v xs, u = .frz v (.tup xs)) ∨ (∃ ys, u = .xd ys) → False
  | .lst _, _, ⟨e, vs, hp, _⟩, z, h, t => by
    rw [e] at z
    rw [List.mem_singleton.mp z, hp] at h
    cases h
    rcases t with ⟨_, t⟩ | ⟨_, _, t⟩ | ⟨_, t⟩ <;> cases t
  | .dK _, _, ⟨e, vs, hp, _⟩, z, h, t => by
    rw [e] at z
    rw [List.mem_singleton.mp z, hp] at h
    cases h
    rcases t with ⟨_, t⟩ | ⟨_, _, t⟩ | ⟨_, t⟩ <;> cases t
  | .dT _, _, ⟨e, vs, hp, _⟩, z, h, t => by
    rw [e] at z
    rw [List.mem_singleton.mp z, hp] at h
    cases h
    rcases t with ⟨_, t⟩ | ⟨_, _, t⟩ | ⟨_, t⟩ <;> cases t
  | .ins _ _, _, o, z, h, t => by
    obtain ⟨u', h', k⟩ := InsAt.there o _ z
    rw [h'] at h
    cases h
    rcases k with ⟨_, _, _, rfl⟩ | ⟨_, rfl⟩ | ⟨_, rfl⟩ <;> rcases t with ⟨_, t⟩ | ⟨_, _, t⟩ | ⟨_, t⟩ <;> cases t
  | .slf _ _, _, ⟨_, o⟩, z, h, t => by
    obtain ⟨u', h', k⟩ := InsAt.there o _ z
    rw [h'] at h
    cases h
    rcases k with ⟨_, _, _, rfl⟩ | ⟨_, rfl⟩ | ⟨_, rfl⟩ <;> rcases t with ⟨_, t⟩ | ⟨_, _, t⟩ | ⟨_, t⟩ <;> cases t
  | .ll _, _, ⟨ps, e, hp, ks⟩, z, h, t => by
    rw [e] at z
    rcases List.mem_cons.mp z with z | z
    · rw [z, hp] at h
      cases h
      rcases t with ⟨_, t⟩ | ⟨_, _, t⟩ | ⟨_, t⟩ <;> cases t
    · obtain ⟨vs, h'⟩ := ks.there _ z
      rw [h'] at h
      cases h
      rcases t with ⟨_, t⟩ | ⟨_, _, t⟩ | ⟨_, t⟩ <;> cases t
  | .dL _, _, ⟨ps, ks', e, hp, _, _, ks⟩, z, h, t => by
    rw [e] at z
    rcases List.mem_cons.mp z with z | z
    · rw [z, hp] at h
      cases h
      rcases t with ⟨_, t⟩ | ⟨_, _, t⟩ | ⟨_, t⟩ <;> cases t
    · obtain ⟨vs, h'⟩ := ks.there _ z
      rw [h'] at h
      cases h
      rcases t with ⟨_, t⟩ | ⟨_, _, t⟩ | ⟨_, t⟩ <;> cases t
theorem owned_kind {C : Ct} {D H : Hp} {a : Addr} {u : HO} : ∀ {ss : List Sl} {σ : St} {fp : List Addr}, SlotsOk C D H ss σ fp → a ∈ fp → H a = some u → (∃ xs, u = .tup xs) ∨ (∃ v xs, u = .frz v (.tup xs)) ∨ (∃ ys, u = .xd ys) → False
  | [], [], _, h, z, _, _ => by rw [show _ = [] from h] at z; cases z
  | s :: ss, x :: xs, fp, ⟨f1, f2, e, h, r⟩, z, hu, t => by
    rw [e] at z
    rcases List.mem_append.mp z with z | z
    · cases s with
      | un => rw [show f1 = [] from h] at z; cases z
      | dat d => rw [h.1] at z; cases z
      | own o => obtain ⟨p, _, ow⟩ := h; exact ownAt_kind ow z hu t
    · exact owned_kind r z hu t
  | [], _ :: _, _, h, _, _, _ => h.elim
  | _ :: _, [], _, h, _, _, _ => h.elim
section
variable {C : Ct} {env : Env} {w : Ds} {σ : St} {D H : Hp}
theorem slots_lend {C' : Ct} {D1 : Hp} (hk : C.k = C'.k) (s : Sub D D1) : ∀ {ss : List Sl} {σ : St} {fp : List Addr}, SlotsOk C D H ss σ fp → (∀ q ∈ fp, ∀ u, H q = some u → D1 q = some u) → SlotsOk C' D1 H (ss.map lendS) σ []
  | [], [], _, h, _ => rfl
  | .un :: ss, x :: xs, fp, ⟨f1, f2, e, h, r⟩, k => ⟨[], [], rfl, rfl, slots_lend hk s r fun q hq => k q (by rw [e]; exact List.mem_append_right _ hq)⟩
  | .dat d :: ss, x :: xs, fp, ⟨f1, f2, e, ⟨_, v, h', r'⟩, r⟩, k => ⟨[], [], rfl, ⟨rfl, v, h', hk ▸ r'.mono s⟩, slots_lend hk s r fun q hq => k q (by rw [e]; exact List.mem_append_right _ hq)⟩
  | .own (.dT ds) :: ss, x :: xs, fp, ⟨f1, f2, e, ⟨p, h, ow⟩, r⟩, k => by
    refine ⟨[], [], rfl, ⟨rfl, .ref p, h, ?_⟩, slots_lend hk s r fun q hq => k q (by rw [e]; exact List.mem_append_right _ hq)⟩
    obtain ⟨e2, vs, hp, q1, q⟩ := ow
    exact hk ▸ .dicT (k p (by rw [e, e2]; simp) _ hp) q1 (q.mono s)
  | .own (.lst ds) :: ss, x :: xs, fp, ⟨f1, f2, e, ⟨p, h, ow⟩, r⟩, k => by
    refine ⟨[], [], rfl, ⟨rfl, .ref p, h, ?_⟩, slots_lend hk s r fun q hq => k q (by rw [e]; exact List.mem_append_right _ hq)⟩
    obtain ⟨e2, vs, hp, q⟩ := ow
    exact hk ▸ .lst (k p (by rw [e, e2]; simp) _ hp) (q.mono s)
  | .own (.dK ds) :: ss, x :: xs, fp, ⟨f1, f2, e, ⟨p, h, ow⟩, r⟩, k => by
    refine ⟨[], [], rfl, ⟨rfl, .ref p, h, ?_⟩, slots_lend hk s r fun q hq => k q (by rw [e]; exact List.mem_append_right _ hq)⟩
    obtain ⟨e2, vs, hp, q1, q⟩ := ow
    exact hk ▸ .dic (k p (by rw [e, e2]; simp) _ hp) q1 (q.mono s)
  | .own (.ins c fs) :: ss, x :: xs, fp, ⟨f1, f2, e, ⟨p, h, ow⟩, r⟩, k => by
    refine ⟨[], [], rfl, ⟨rfl, .ref p, h, ?_⟩, slots_lend hk s r fun q hq => k q (by rw [e]; exact List.mem_append_right _ hq)⟩
    exact hk ▸ (InsAt.mono ow s fun _ _ _ x => x).rp fun q hq u x => k q (by rw [e]; exact List.mem_append_left _ hq) u x
  | .own (.slf c fs) :: ss, x :: xs, fp, ⟨f1, f2, e, ⟨p, h, ow⟩, r⟩, k => by
    refine ⟨[], [], rfl, ⟨rfl, .ref p, h, ?_⟩, slots_lend hk s r fun q hq => k q (by rw [e]; exact List.mem_append_right _ hq)⟩
    exact hk ▸ (InsAt.mono ow.2 s fun _ _ _ x => x).rp fun q hq u x => k q (by rw [e]; exact List.mem_append_left _ hq) u x
  | .own (.ll dss) :: ss, x :: xs, fp, ⟨f1, f2, e, ⟨p, h, ow⟩, r⟩, k => by
    refine ⟨[], [], rfl, ⟨rfl, .ref p, h, ?_⟩, slots_lend hk s r fun q hq => k q (by rw [e]; exact List.mem_append_right _ hq)⟩
    obtain ⟨ps, e2, hp, t⟩ := ow
    exact hk ▸ .lst (k p (by rw [e, e2]; simp) _ hp) ((t.mono s fun _ _ _ x => x).rpl fun q hq u x => k q (by rw [e, e2]; simp [hq]) u x)
  | .own (.dL kvs) :: ss, x :: xs, fp, ⟨f1, f2, e, ⟨p, h, ow⟩, r⟩, k => by
    refine ⟨[], [], rfl, ⟨rfl, .ref p, h, ?_⟩, slots_lend hk s r fun q hq => k q (by rw [e]; exact List.mem_append_right _ hq)⟩
    obtain ⟨ps, ks, e2, hp, h4, h5, t⟩ := ow
    refine hk ▸ .dicT (k p (by rw [e, e2]; simp) _ hp) (by rw [h4]; simp [List.map_map, Function.comp_def]) ?_
    have := (t.mono s fun _ _ _ x => x).rpl fun q hq u x => k q (by rw [e, e2]; simp [hq]) u x
    rw [h5]
    simpa [List.map_map, Function.comp_def] using this
  | [], _ :: _, _, h, _ => h.elim
  | _ :: _, [], _, h, _ => h.elim
/-- lent: all that is owned is data for a while; given back: data but for it -/
theorem Sta.lend (S : Sta C env w σ D H []) : ∃ D1, Sta ⟨C.k, H, D1⟩ (lendA env) w σ D1 H [] ∧ Sub D D1 ∧
    ∀ w' D' H' fx, Sta ⟨C.k, H, D1⟩ (lendA env) w' σ D' H' fx → ∃ D'', Sta C env w' σ D'' H' fx ∧ Sub D D'' ∧ (∀ a u, D' a = some u → (∃ xs, u = .tup xs) ∨ (∃ v xs, u = .frz v (.tup xs)) ∨ (∃ ys, u = .xd ys) → D'' a = some u) ∧ Sub D'' D' := by
  obtain ⟨fp, h1, h2, h3⟩ := S.sl
  rw [List.nil_append] at h2
  simp only [List.nil_append] at h3
  have th := h1.there
  let isT : HO → Bool := fun _ => false
  let D1 : Hp := fun a => if a ∈ fp then (H a).bind fun u => if isT u then none else some u else D a
  have eD : ∀ a, a ∈ fp → D1 a = (H a).bind fun u => if isT u then none else some u := fun a z => if_pos z
  have nD : ∀ a, a ∉ fp → D1 a = D a := fun a z => if_neg z
  have inD : ∀ a u, a ∈ fp → D1 a = some u → H a = some u := fun a u z q => by
    rw [eD a z] at q
    cases e : H a with
    | none => rw [e] at q; cases q
    | some u' =>
      rw [e] at q
      simp only [Option.bind] at q
      split at q
      · cases q
      · exact q
  have sub : Sub D D1 := fun a u q => by
    by_cases z : a ∈ fp
    · rw [(h3 a z).1] at q; cases q
    · rw [nD a z]; exact q
  have up : Sub D1 H := fun a u q => by
    by_cases z : a ∈ fp
    · exact inD a u z q
    · rw [nD a z] at q; exact S.up a u q
  have S1 : Sta ⟨C.k, H, D1⟩ (lendA env) w σ D1 H [] := by
    refine ⟨up, Sub.refl _, fun _ _ _ e => e, fun a e n => absurd e n, S.wd.move sub (Sub.refl _) (fun q hq => ?_) (fun a xs e => sub _ _ (S.wd.tp a xs e)), [], ?_, List.nodup_nil, fun q hq => (by cases hq)⟩
    · obtain ⟨_, _, e2⟩ := S.wd.there hq
      rw [nD q fun z => (h3 q z).2.2 hq]
      exact e2
    · refine slots_lend (C := C) (C' := ⟨C.k, H, D1⟩) rfl sub h1 fun q hq u e => ?_
      rw [eD q hq, e]
      simp only [Option.bind]
      have : isT u = false := rfl
      rw [this] <;> rfl
  refine ⟨D1, S1, sub, fun w' D' H' fx S' => ?_⟩
  let D'' : Hp := fun a => if a ∈ fp then none else D' a
  have eD2 : ∀ a, a ∈ fp → D'' a = none := fun a z => if_pos z
  have nD2 : ∀ a, a ∉ fp → D'' a = D' a := fun a z => if_neg z
  have s1 : Sub D1 D' := S'.d0
  have s2 : Sub D D'' := fun a u q => by
    have z : a ∉ fp := fun z => by rw [(h3 a z).1] at q; cases q
    rw [nD2 a z]
    exact s1 a u (sub a u q)
  have down : Sub D'' D' := fun a u q => by
    by_cases z : a ∈ fp
    · rw [eD2 a z] at q; cases q
    · rw [nD2 a z] at q; exact q
  have keep : ∀ q ∈ fp, ∀ u, H q = some u → H' q = some u := fun q hq u hu => S'.kp q u (h3 q hq).2.2 hu
  have H0n : ∀ a, H a = none → C.H0 a = none := fun a e => by
    cases z : C.H0 a with
    | none => rfl
    | some u =>
      by_cases hp : C.k.mu a
      · obtain ⟨_, e1, _⟩ := S.wd.there hp
        rw [e] at e1; cases e1
      · rw [S.kp a u hp z] at e; cases e
  refine ⟨D'', ?_, s2, fun a u q ht => ?_, down⟩
  · obtain ⟨fq, g1, g2, g3⟩ := S'.sl
    have fxf : ∀ q ∈ fx, D' q = none ∧ H q = none ∧ ¬ C.k.mu q := fun q hq => g3 q (List.mem_append_left _ hq)
    refine ⟨fun a u e => S'.up a u (down a u e), S.d0.trans s2, fun b u hb e => S'.kp b u hb (S.kp b u hb e), fun a e n => ?_, ⟨fun p hp => ?_, fun p hp => ⟨(S'.wd.tb p hp).1, ?_⟩, fun a xs e => ?_⟩, fp, h1.mono s2 keep, ?_, fun q hq => ?_⟩
    · have z : a ∉ fp := fun z => n (eD2 a z)
      rw [nD2 a z] at n
      cases q : D1 a with
      | none => exact H0n a (S'.nw a q n)
      | some u =>
        rw [nD a z] at q
        exact S.nw a e (by rw [q]; simp)
    · obtain ⟨k1, k2, k3, k4⟩ := S'.wd.dr p hp
      refine ⟨k1, ?_, k3, sqL_sub s2 (S.wd.dr p hp).2.2.2⟩
      cases z : D'' p with
      | none => rfl
      | some u =>
        have q := down p u z
        rw [k2] at q; cases q
    · cases z : D'' p.1 with
      | none => rfl
      | some u =>
        have q := down p.1 u z
        rw [(S'.wd.tb p hp).2] at q; cases q
    · have e' := S'.wd.tp a xs e
      have z : a ∉ fp := fun z => by
        obtain ⟨u, hu⟩ := th a z
        have := keep a z u hu
        rw [e] at this
        cases this
        exact owned_kind h1 z hu (.inl ⟨_, rfl⟩)
      rw [nD2 a z]; exact e'
    · rw [List.nodup_append] at g2 ⊢
      refine ⟨g2.1, h2, fun a ha b hb e => ?_⟩
      obtain ⟨u, hu⟩ := th b hb
      rw [← e, (fxf a ha).2.1] at hu
      cases hu
    · rcases List.mem_append.mp hq with z | z
      · obtain ⟨k1, k2, k3⟩ := fxf q z
        refine ⟨?_, H0n q k2, k3⟩
        cases y : D'' q with
        | none => rfl
        | some u =>
          have y' := down q u y
          rw [k1] at y'; cases y'
      · exact ⟨eD2 q z, (h3 q z).2⟩
  · have z : a ∉ fp := fun z => by
      obtain ⟨v, hv⟩ := th a z
      -- what stands there is no tuple: it is owned
      have hv' := keep a z v hv
      have hu := S'.up a u q
      rw [hu] at hv'
      cases hv'
      exact owned_kind h1 z hv ht
    rw [nD2 a z]; exact q
end
end Dn
end
section
/-! Lent slots in expressions; lists written in place; more statements and calls. -/
namespace Dn
open PySem L2
open PySem (F.slot_list_append)
/-! ### expressions over lent slots -/
def gLend (g : GE) : GE := fun env w => match g (lendA env) w with
  | .ok r w1 => if flat r then .ok r w1 else .bad
  | .exc c fs w1 => if flats (fs.map (·.2)) then .exc c fs w1 else .bad
  | .bad => .bad
def gLendT (g : GT) : GT := fun env w => match g (lendA env) w with
  | .ok r w1 => .ok r w1
  | .exc c fs w1 => if flats (fs.map (·.2)) then .exc c fs w1 else .bad
  | .bad => .bad
def flatF (fs : List (Str × Fv)) : Bool := fs.all fun x => match x.2 with
  | .d d => flat d
  | .l ds => flats ds
theorem flatF_ok {k : Kp} {D' D'' H : Hp} (s : ∀ a o, D' a = some o → (∃ xs, o = .tup xs) ∨ (∃ u xs, o = .frz u (.tup xs)) ∨ (∃ ys, o = .xd ys) → D'' a = some o) : ∀ {vs : List (Str × V)} {fs : List (Str × Fv)} {fp : List Addr}, flatF fs = true → FldsOk k D' H vs fs fp → FldsOk k D'' H vs fs fp
  | [], [], _, _, h => h
  | (n, v) :: vs, (m, .d x) :: fs, fp, hf, ⟨e, r, t⟩ => by
    have h' : flat x = true ∧ flatF fs = true := by simpa [flatF] using hf
    exact ⟨e, flat_rp s h'.1 r, flatF_ok s h'.2 t⟩
  | (n, v) :: vs, (m, .l ds) :: fs, fp, hf, ⟨e, z, r, us, e1, e2, h, rr, t⟩ => by
    have h' : flats ds = true ∧ flatF fs = true := by simpa [flatF] using hf
    exact ⟨e, z, r, us, e1, e2, h, flats_rp s h'.1 rr, flatF_ok s h'.2 t⟩
  | [], (_, .d _) :: _, _, _, h => h.elim
  | [], (_, .l _) :: _, _, _, h => h.elim
  | _ :: _, [], _, _, h => h.elim
def gLendF (g : GF) : GF := fun env w => match g (lendA env) w with
  | .ok (.lst ds) w1 => if flats ds then .ok (.lst ds) w1 else .bad
  | .ok (.ins c fs) w1 => if flatF fs then .ok (.ins c fs) w1 else .bad
  | .ok _ _ => .bad
  | .exc c fs w1 => if flats (fs.map (·.2)) then .exc c fs w1 else .bad
  | .bad => .bad
section
variable {F : Fc} {W : WX}
theorem postX_lend {C : Ct} {env : Env} {σ : St} {D H D1 : Hp} {c : Str} {fs : List (Str × Dt)} {w : Ds} (hf : flats (fs.map (·.2)) = true)
    (back : ∀ w' D' H' fx, Sta ⟨C.k, H, D1⟩ (lendA env) w' σ D' H' fx → ∃ D'', Sta C env w' σ D'' H' fx ∧ Sub D D'' ∧ (∀ a u, D' a = some u → (∃ xs, u = .tup xs) ∨ (∃ v xs, u = .frz v (.tup xs)) ∨ (∃ ys, u = .xd ys) → D'' a = some u) ∧ Sub D'' D')
    (p : PostX C env σ W c fs w) : PostX ⟨C.k, H, D1⟩ (lendA env) σ W c fs w := by
  intro Ca d D' H' S' hx
  obtain ⟨D'', S'', _, up, _⟩ := back _ _ _ _ S'
  obtain ⟨cc, vs, hd, e, r⟩ := hx
  exact p Ca d D'' H' S'' ⟨cc, vs, up _ _ hd (.inr (.inr ⟨_, rfl⟩)), e, flats_rp up hf r⟩
theorem den_lend {t : TE} {g : GE} (h : DenE F W t g) : DenE F W t (gLend g) := by
  intro C env w σ D H Q K S p
  obtain ⟨D1, S1, s1, back⟩ := S.lend
  refine h ⟨C.k, H, D1⟩ (lendA env) w σ D1 H Q (kin_here K _ _) S1 ?_
  unfold gLend at p
  cases e : g (lendA env) w with
  | bad => rw [e] at p; exact p
  | exc c fs w1 =>
    rw [e] at p
    simp only at p
    split at p
    · rename_i hf
      exact postX_lend hf back p
    · exact p.elim
  | ok r w1 =>
    rw [e] at p
    simp only at p
    split at p
    · rename_i hf
      intro v D' H' S' s' rv
      obtain ⟨D'', S'', s'', up, _⟩ := back _ _ _ _ S'
      exact p v D'' H' S'' s'' (flat_rp up hf rv)
    · exact p.elim
theorem den_lendT {t : TT} {g : GT} (h : DenT F W t g) : DenT F W t (gLendT g) := by
  intro C env w σ D H Q K S p
  obtain ⟨D1, S1, s1, back⟩ := S.lend
  refine h ⟨C.k, H, D1⟩ (lendA env) w σ D1 H Q (kin_here K _ _) S1 ?_
  unfold gLendT at p
  cases e : g (lendA env) w with
  | bad => rw [e] at p; exact p
  | exc c fs w1 =>
    rw [e] at p
    simp only at p
    split at p
    · rename_i hf
      exact postX_lend hf back p
    · exact p.elim
  | ok r w1 =>
    rw [e] at p
    intro D' H' S' s'
    obtain ⟨D'', S'', s'', up, _⟩ := back _ _ _ _ S'
    exact p D'' H' S'' s''
theorem den_lendF {t : TE} {g : GF} (h : DenF F W t g) : DenF F W t (gLendF g) := by
  intro C env w σ D H Q K S p
  obtain ⟨D1, S1, s1, back⟩ := S.lend
  refine h ⟨C.k, H, D1⟩ (lendA env) w σ D1 H Q (kin_here K _ _) S1 ?_
  unfold gLendF at p
  cases e : g (lendA env) w with
  | bad => rw [e] at p; exact p
  | exc c fs w1 =>
    rw [e] at p
    simp only at p
    split at p
    · rename_i hf
      exact postX_lend hf back p
    · exact p.elim
  | ok r w1 =>
    rw [e] at p
    cases r with
    | lst ds =>
      simp only at p
      split at p
      · rename_i hf
        intro q fp D' H' S' s' ow
        obtain ⟨D'', S'', s'', up, _⟩ := back _ _ _ _ S'
        obtain ⟨e1, vs, hq, rv⟩ := ow
        exact p q fp D'' H' S'' s'' ⟨e1, vs, hq, flats_rp up hf rv⟩
      · exact p.elim
    | dK kvs => exact p.elim
    | dT kvs => exact p.elim
    | slf c fs => exact p.elim
    | ll dss => exact p.elim
    | dL kvs => exact p.elim
    | ins c fs =>
      simp only at p
      split at p
      · rename_i hf
        intro q fp D' H' S' s' ow
        obtain ⟨D'', S'', s'', up, _⟩ := back _ _ _ _ S'
        obtain ⟨Ca, dx, vs, r, e1, h1, h2, h3, t⟩ := ow
        exact p q fp D'' H' S'' s'' ⟨Ca, dx, vs, r, e1, h1, h2, h3, flatF_ok up hf t⟩
      · exact p.elim
theorem de_lend {e : Expr} {g : GE} (h : DE F e g) : DE F e (gLend g) := let ⟨t, a, b⟩ := h.ex; ⟨⟨t, a, fun W => den_lend (b W)⟩⟩
theorem df_lend {e : Expr} {g : GF} (h : DF F e g) : DF F e (gLendF g) := let ⟨t, a, b⟩ := h.ex; ⟨⟨t, a, fun W => den_lendF (b W)⟩⟩
theorem dt_lend {e : Expr} {g : GT} (h : DT F e g) : DT F e (gLendT g) := let ⟨t, a, b⟩ := h.ex; ⟨⟨t, a, fun W => den_lendT (b W)⟩⟩
end
/-! ### handing on -/
section
variable {C : Ct} {env : Env} {w : Ds} {σ : St} {D H : Hp}
/-- the owned thing at i leaves its slot -/
theorem Sta.take (S : Sta C env w σ D H []) {i : Nat} {o : Ow} (e : env[i]? = some (.own o)) : ∃ p fp, σ[i]? = some (some (.ref p)) ∧ OwnAt C D H p o fp ∧ Sta C (env.set i .un) w σ D H fp := by
  obtain ⟨fs, h1, h2, h3⟩ := S.sl
  obtain ⟨p, f1, f2, f3, ef, hx, ow, hk, hk2⟩ := h1.own e
  refine ⟨p, f2, hx, ow, S.up, S.d0, S.kp, S.nw, S.wd, f1 ++ ([] ++ f3), hk2 .un D H [] (Sub.refl _) (fun _ _ _ e => e) rfl, ?_, fun q hq => h3 q ?_⟩
  · rw [List.nil_append] at h2 ⊢
    rw [ef] at h2
    have : (f1 ++ (f2 ++ f3)).Perm (f2 ++ (f1 ++ f3)) := by
      rw [← List.append_assoc, ← List.append_assoc]
      exact (List.perm_append_comm).append_right f3
    exact this.nodup_iff.mp h2
  · rw [List.nil_append, ef]
    rw [List.nil_append] at hq
    rcases List.mem_append.mp hq with z | z
    · simp [z]
    · rcases List.mem_append.mp z with z | z
      · simp [z]
      · simp [z]
/-- the owned thing at i becomes data -/
theorem Sta.frzI (S : Sta C env w σ D H []) (i : Nat) : ∃ D', Sta C (frzE i env) w σ D' H [] ∧ Sub D D' := by
  have key : ∀ o, env[i]? = some (.own o) → ∃ D', Sta C (env.set i (.dat o.dt)) w σ D' H [] ∧ Sub D D' := fun o e => by
    obtain ⟨p, fp, hx, ow, S1⟩ := S.take e
    have S1' : Sta C (env.set i .un) w σ D H (fp ++ []) := by rw [List.append_nil]; exact S1
    obtain ⟨D', S2, s2, r⟩ := S1'.frz ow
    refine ⟨D', ?_, s2⟩
    have hi : i < env.length := by
      cases q : Nat.decLt i env.length with
      | isTrue h => exact h
      | isFalse h => rw [List.getElem?_eq_none (Nat.le_of_not_lt h)] at e; cases e
    have S3 := S2.setD (i := i) r (by rw [List.length_set]; exact hi)
    rw [List.set_set] at S3
    have eσ : σ.set i (some (.ref p)) = σ := by
      apply List.ext_getElem?
      intro j
      by_cases z : i = j
      · subst z
        rw [hx]
        have : i < σ.length := by
          have := S.len
          omega
        rw [List.getElem?_set_self this]
      · rw [List.getElem?_set_ne z]
    rw [eσ] at S3
    exact S3
  unfold frzE
  split
  · rename_i ds e; exact key _ e
  · rename_i ds e; exact key _ e
  · rename_i ds e; exact key _ e
  · rename_i c fs e; exact key _ e
  · rename_i e; exact key _ e
  · rename_i e; exact key _ e
  · rename_i e; exact key _ e
  · exact ⟨D, S, Sub.refl _⟩
end
section
variable {F : Fc}
/-- return x -/
def sRetV (i : Nat) : GS := fun env w => match env[i]? with
  | some (.own o) => .rtf o w
  | some (.dat d) => .ret d w
  | _ => .bad
theorem ds_retV {x : Str} {p pos : PySem.Pos} (i : Nat) (hN : F.N[i]? = some x) (hv : Vis F.sc x) (hd : (x == ("__debug__" : Str)) = false := by decide +kernel) (hcd : (x == ("__classdict__" : Str)) = false := by decide +kernel) : DS F (.Return (some (.Name x p)) pos) (sRetV i) := by
  refine ⟨⟨fun W => tRet (tVar i), fun X W O T => ps_ret (pe_var (by rw [O.N]; exact hN) (by rw [O.sc]; exact hv) hd hcd), fun W C env w σ D H Dn K S p => ?_⟩⟩
  unfold sRetV at p
  cases e : env[i]? with
  | none => rw [e] at p; exact p.elim
  | some s =>
    rw [e] at p
    cases s with
    | un => exact p.elim
    | dat d =>
      obtain ⟨v, hv, r⟩ := S.dat e
      exact ⟨v, hv, p env σ v D H S r⟩
    | own o =>
      obtain ⟨q, fp, hx, ow, S1⟩ := S.take e
      exact ⟨_, hx, p _ σ q fp D H S1 ow⟩
/-! ### lists in place -/
/-- what a method without an answer makes of a list and its arguments -/
structure Lm (id : String) (f : List Dt → List Dt → Option (List Dt)) : Prop where
  run : ∃ r : V → List V → Hp → VK → Prop, (∀ X : Cx, MtR X id r) ∧ ∀ (k : Kp) (D H : Hp) (p : Addr) (vs xs : List V) (ds es ds' : List Dt) (Q : VK), H p = some (.lst vs) → Sub D H → RpL k D vs ds → RpL k D xs es → f ds es = some ds' →
    (∀ vs', RpL k D vs' ds' → Q .non (upd H p (.lst vs'))) → r (.ref p) xs H Q
def sLm (i : Nat) (f : List Dt → List Dt → Option (List Dt)) (ga : GA) : GS := fun env w => match env[i]? with
  | some (.own (.lst ds)) => match ga env w with
    | .ok es w1 => match f ds es with
      | some ds' => .nx (env.set i (.own (.lst ds'))) w1
      | none => .bad
    | .exc c fs w1 => .exc c fs env w1
    | .bad => .bad
  | _ => .bad
theorem ds_lm {x name : Str} {id : String} {f : List Dt → List Dt → Option (List Dt)} {p ap cp pos : PySem.Pos} {e : Expr} {es : List Expr} {ga : GA} (i : Nat) (L : Lm id f) (slot : Slot "list" name id) (hty : typeOf (.builtin id) = pure (.type "method_descriptor"))
    (hN : F.N[i]? = some x) (hv : Vis F.sc x) (h : DL F (e :: es) ga) (hd : (x == ("__debug__" : Str)) = false := by decide +kernel) (hcd : (x == ("__classdict__" : Str)) = false := by decide +kernel)
    (hbase : ∀ env, attributeBase (.Name x p) name env (eval (.Name x p) env) = eval (.Name x p) env := by intro _; rfl)
    (hfew : ∀ env, ((backTo cp (starEach (e :: es) env)).all (fun x => !x.1) && (backToKw cp (keywordEach [] env)).all (fun x => x.1.isSome)
      && decide ((e :: es).length + ([] : List Keyword).length + (if ([] : List Keyword).isEmpty then 0 else 1) < 30)) = true := by intro _; rfl)
    (hline : (ap.endLine == cp.line) = true := by rfl) (hs : ∀ env, starEach (e :: es) env = (false, eval e env) :: starEach es env := by intro _; rfl) (hplain : ∀ env, (backTo cp (starEach es env)).any (·.1) = false := by intro _; rfl)
    (hsw : ∀ env, swapsWith (.Call (.Attribute (.Name x p) name ap) (e :: es) [] cp) none pos.line env = pure false := by intro _; rfl) :
    DS F (.Expr (.Call (.Attribute (.Name x p) name ap) (e :: es) [] cp) pos) (sLm i f ga) := by
  obtain ⟨t, a1, a2⟩ := h.ex
  obtain ⟨r, r1, r2⟩ := L.run
  refine ⟨⟨fun W => tDrop (tBM F.K "list" r (tVar i) (t W)), fun X W O T => ?_, fun W C env w σ D H Dn K S q => ?_⟩⟩
  · rw [← O.K]
    exact ps_expr (pe_bm PySem.F.plainAttrs_list slot hty (r1 X) (pe_var (by rw [O.N]; exact hN) (by rw [O.sc]; exact hv) hd hcd) (a1 X W O T) (hbase _) (hfew _) hline (hs _) (hplain _)) (hsw _)
  · unfold sLm at q
    split at q
    · rename_i ds e
      obtain ⟨p, vs, hx, hp, rv, put⟩ := S.putL e
      refine ⟨_, hx, .inl ⟨rfl, vs, .inl (.inl hp)⟩, ?_⟩
      refine a2 W C env w σ D H _ K S ?_
      cases eg : ga env w with
      | bad => rw [eg] at q; exact q.elim
      | exc c fs w1 => rw [eg] at q; exact q σ
      | ok es w1 =>
        rw [eg] at q
        simp only at q
        intro xs D' H' S' s' rx
        obtain ⟨p', vs', hx', hp', rv', put'⟩ := S'.putL e
        rw [hx] at hx'
        cases hx'
        cases ef : f ds es with
        | none => rw [ef] at q; exact q.elim
        | some ds' =>
          rw [ef] at q
          exact r2 C.k D' H' p vs' xs ds es ds' _ hp' S'.up rv' rx ef fun vs2 r2' => q σ D' _ (put' vs2 ds' r2')
    · exact q.elim
def sLm0 (i : Nat) (f : List Dt → Option (List Dt)) : GS := fun env w => match env[i]? with
  | some (.own (.lst ds)) => match f ds with
    | some ds' => .nx (env.set i (.own (.lst ds'))) w
    | none => .bad
  | _ => .bad
structure Lm0 (id : String) (f : List Dt → Option (List Dt)) : Prop where
  run : ∃ r : V → List V → Hp → VK → Prop, (∀ X : Cx, MtR X id r) ∧ ∀ (k : Kp) (D H : Hp) (p : Addr) (vs : List V) (ds ds' : List Dt) (Q : VK), H p = some (.lst vs) → Sub D H → RpL k D vs ds → f ds = some ds' →
    (∀ vs' v, RpL k D vs' ds' → Q v (upd H p (.lst vs'))) → r (.ref p) [] H Q
theorem ds_lm0 {x name : Str} {id : String} {f : List Dt → Option (List Dt)} {p ap cp pos : PySem.Pos} (i : Nat) (L : Lm0 id f) (slot : Slot "list" name id) (hty : typeOf (.builtin id) = pure (.type "method_descriptor"))
    (hN : F.N[i]? = some x) (hv : Vis F.sc x) (hd : (x == ("__debug__" : Str)) = false := by decide +kernel) (hcd : (x == ("__classdict__" : Str)) = false := by decide +kernel)
    (hbase : ∀ env, attributeBase (.Name x p) name env (eval (.Name x p) env) = eval (.Name x p) env := by intro _; rfl) (hline : (ap.endLine == cp.line) = true := by rfl)
    (hsw : ∀ env, swapsWith (.Call (.Attribute (.Name x p) name ap) [] [] cp) none pos.line env = pure false := by intro _; rfl) :
    DS F (.Expr (.Call (.Attribute (.Name x p) name ap) [] [] cp) pos) (sLm0 i f) := by
  obtain ⟨r, r1, r2⟩ := L.run
  refine ⟨⟨fun W => tDrop (tBM0 F.K "list" r (tVar i)), fun X W O T => ?_, fun W C env w σ D H Dn K S q => ?_⟩⟩
  · rw [← O.K]
    exact ps_expr (pe_bm0 PySem.F.plainAttrs_list slot hty (r1 X) (pe_var (by rw [O.N]; exact hN) (by rw [O.sc]; exact hv) hd hcd) (hbase _) hline) (hsw _)
  · unfold sLm0 at q
    split at q
    · rename_i ds e
      obtain ⟨p, vs, hx, hp, rv, put⟩ := S.putL e
      refine ⟨_, hx, .inl ⟨rfl, vs, .inl (.inl hp)⟩, ?_⟩
      cases ef : f ds with
      | none => rw [ef] at q; exact q.elim
      | some ds' =>
        rw [ef] at q
        exact r2 C.k D H p vs ds ds' _ hp S.up rv ef fun vs2 _ r2' => q σ D _ (put vs2 ds' r2')
    · exact q.elim
def fApp : List Dt → List Dt → Option (List Dt) := fun ds es => match es with
  | [e] => if ds.length < sizeLine then some (ds ++ [e]) else none
  | _ => none
theorem lm_append : Lm "list.append" fApp := ⟨rAppend, fun X => mt_append, fun k D H p vs xs ds es ds' Q hp u rv rx e q => by
  unfold fApp at e
  split at e
  · split at e
    · cases e
      rename_i hl
      obtain ⟨v, rfl, r⟩ := one_rp rx
      exact ⟨p, vs, v, rfl, rfl, hp, by rw [rv.length]; exact hl, q _ (rv.append (.cons r .nil))⟩
    · cases e
  · cases e⟩
def fExt : List Dt → List Dt → Option (List Dt) := fun ds es => match es with
  | [.lst zs] => if ds.length + zs.length ≤ sizeLine then some (ds ++ zs) else none
  | _ => none
theorem lm_extend : Lm "list.extend" fExt := ⟨rExtend, fun X => mt_extend, fun k D H p vs xs ds es ds' Q hp u rv rx e q => by
  unfold fExt at e
  split at e
  · split at e
    · cases e
      rename_i hl
      obtain ⟨v, rfl, r⟩ := one_rp rx
      cases r with
      | lst hd rz => exact ⟨p, _, vs, _, rfl, rfl, hp, u _ _ hd, by rw [rv.length, rz.length]; exact hl, q _ (rv.append rz)⟩
    · cases e
  · cases e⟩
theorem lm_clear : Lm0 "list.clear" (fun _ => some []) := ⟨rClear, fun X => mt_clear, fun k D H p vs ds ds' Q hp u rv e q => by
  cases e
  exact ⟨p, vs, rfl, rfl, hp, q [] _ .nil⟩⟩
theorem ds_append {x : Str} {p ap cp pos : PySem.Pos} {e : Expr} {ga : GA} (i : Nat) (hN : F.N[i]? = some x) (hv : Vis F.sc x) (h : DL F [e] ga) (hd : (x == ("__debug__" : Str)) = false := by decide +kernel) (hcd : (x == ("__classdict__" : Str)) = false := by decide +kernel)
    (hfew : ∀ env, ((backTo cp (starEach [e] env)).all (fun x => !x.1) && (backToKw cp (keywordEach [] env)).all (fun x => x.1.isSome)
      && decide (([e] : List Expr).length + ([] : List Keyword).length + (if ([] : List Keyword).isEmpty then 0 else 1) < 30)) = true := by intro _; rfl)
    (hline : (ap.endLine == cp.line) = true := by rfl) (hs : ∀ env, starEach [e] env = (false, eval e env) :: starEach [] env := by intro _; rfl)
    (hsw : ∀ env, swapsWith (.Call (.Attribute (.Name x p) "append" ap) [e] [] cp) none pos.line env = pure false := by intro _; rfl) :
    DS F (.Expr (.Call (.Attribute (.Name x p) "append" ap) [e] [] cp) pos) (sLm i fApp ga) := ds_lm i lm_append PySem.F.slot_list_append PySem.F.type_list_append hN hv h hd hcd (fun _ => rfl) hfew hline hs (fun _ => rfl) hsw
theorem ds_extend {x : Str} {p ap cp pos : PySem.Pos} {e : Expr} {ga : GA} (i : Nat) (hN : F.N[i]? = some x) (hv : Vis F.sc x) (h : DL F [e] ga) (hd : (x == ("__debug__" : Str)) = false := by decide +kernel) (hcd : (x == ("__classdict__" : Str)) = false := by decide +kernel)
    (hfew : ∀ env, ((backTo cp (starEach [e] env)).all (fun x => !x.1) && (backToKw cp (keywordEach [] env)).all (fun x => x.1.isSome)
      && decide (([e] : List Expr).length + ([] : List Keyword).length + (if ([] : List Keyword).isEmpty then 0 else 1) < 30)) = true := by intro _; rfl)
    (hline : (ap.endLine == cp.line) = true := by rfl) (hs : ∀ env, starEach [e] env = (false, eval e env) :: starEach [] env := by intro _; rfl)
    (hsw : ∀ env, swapsWith (.Call (.Attribute (.Name x p) "extend" ap) [e] [] cp) none pos.line env = pure false := by intro _; rfl) :
    DS F (.Expr (.Call (.Attribute (.Name x p) "extend" ap) [e] [] cp) pos) (sLm i fExt ga) := ds_lm i lm_extend PySem.F.slot_list_extend PySem.F.type_list_extend hN hv h hd hcd (fun _ => rfl) hfew hline hs (fun _ => rfl) hsw
theorem ds_clear {x : Str} {p ap cp pos : PySem.Pos} (i : Nat) (hN : F.N[i]? = some x) (hv : Vis F.sc x) (hd : (x == ("__debug__" : Str)) = false := by decide +kernel) (hcd : (x == ("__classdict__" : Str)) = false := by decide +kernel)
    (hline : (ap.endLine == cp.line) = true := by rfl)
    (hsw : ∀ env, swapsWith (.Call (.Attribute (.Name x p) "clear" ap) [] [] cp) none pos.line env = pure false := by intro _; rfl) :
    DS F (.Expr (.Call (.Attribute (.Name x p) "clear" ap) [] [] cp) pos) (sLm0 i fun _ => some []) := ds_lm0 i lm_clear PySem.F.slot_list_clear PySem.F.type_list_clear hN hv hd hcd (fun _ => rfl) hline hsw
/-- x += [..] -/
def sAugL (i : Nat) (g : GE) : GS := fun env w => match env[i]? with
  | some (.own (.lst ds)) => match g env w with
    | .ok (.lst zs) w1 => if ds.length + zs.length ≤ sizeLine then .nx (env.set i (.own (.lst (ds ++ zs)))) w1 else .bad
    | .ok _ _ => .bad
    | .exc c fs w1 => .exc c fs env w1
    | .bad => .bad
  | _ => .bad
theorem ds_augL {x : Str} {p pos : PySem.Pos} {e : Expr} {g : GE} (i : Nat) (hN : F.N.Nodup) (hi : F.N[i]? = some x) (hx : Loc F.sc x) (hf : F.top = true ∨ F.sc.names.lookup x = some .local) (h : DE F e g) : DS F (.AugAssign (.Name x p) .Add e pos) (sAugL i g) := by
  obtain ⟨t, a1, a2⟩ := h.ex
  refine ⟨⟨fun W => tAug i (t W) rExt2, fun X W O T => ?_, fun W C env w σ D H Dn K S q => ?_⟩⟩
  · refine ps_aug (by rw [O.N]; exact hN) (by rw [O.N]; exact hi) (by rw [O.sc]; exact hx) (a1 X W O T) iop_ext ?_
    rcases hf with z | z
    · exact .inl (O.fn z x)
    · exact .inr (by rw [O.sc]; exact z)
  · unfold sAugL at q
    split at q
    · rename_i ds e
      obtain ⟨p, vs, hx, hp, rv, put⟩ := S.putL e
      refine ⟨_, hx, a2 W C env w σ D H _ K S ?_⟩
      cases eg : g env w with
      | bad => rw [eg] at q; exact q.elim
      | exc c fs w1 => rw [eg] at q; exact q σ
      | ok z w1 =>
        rw [eg] at q
        intro v D' H' S' s' rz
        cases z with
        | lst zs =>
          simp only at q
          split at q
          · rename_i hl
            obtain ⟨p', vs', hx', hp', rv', put'⟩ := S'.putL e
            rw [hx] at hx'
            cases hx'
            cases rz with
            | lst hd rr =>
              refine ⟨p, _, vs', _, rfl, rfl, hp', S'.up _ _ hd, by rw [rv'.length, rr.length]; exact hl, ?_⟩
              have S2 := put' _ _ (rv'.append rr)
              have eσ : σ.set i (some (.ref p)) = σ := by
                apply List.ext_getElem?
                intro j
                by_cases z : i = j
                · subst z
                  have hlt : i < σ.length := by
                    cases zz : Nat.decLt i σ.length with
                    | isTrue h => exact h
                    | isFalse h => rw [List.getElem?_eq_none (Nat.le_of_not_lt h)] at hx; cases hx
                  rw [hx, List.getElem?_set_self hlt]
                · rw [List.getElem?_set_ne z]
              show Dn.nx (List.set σ i (some (.ref p))) _
              rw [eσ]
              exact q σ D' _ S2
          · exact q.elim
        | _ => exact q.elim
    · exact q.elim
end
end Dn
end
section
/-! isinstance, methods of texts, parallel stores. -/
namespace Dn
open PySem L2
section
variable {F : Fc}
/-! ### isinstance(x, a built-in type) -/
def tyD : Dt → Option String
  | .non => some "NoneType"
  | .bl _ => some "bool"
  | .int _ => some "int"
  | .str _ => some "str"
  | .tup _ => some "tuple"
  | .lst _ => some "list"
  | .dic _ => some "dict"
  | .scr _ => some "list"
  | .emp => some "tuple"
  | _ => none
theorem tyD_rp {k : Kp} {D H : Hp} {v : V} {d : Dt} {t : String} (u : Sub D H) (r : Rp k D v d) (e : tyD d = some t) : TyX k.K H v (.type t) := by
  cases r with
  | non => cases e; exact .base .non
  | bl b => cases e; exact .base (.bl b)
  | int i => cases e; exact .base (.int i)
  | str x => cases e; exact .base (.str x)
  | tup h r => cases e; exact .base (.tup (u _ _ h))
  | lst h r => cases e; exact .base (.lst (u _ _ h))
  | dic h _ r => cases e; exact .base (.dK (u _ _ h))
  | obj _ _ _ _ _ => cases e
  | dicT _ _ _ => cases e
  | dicF _ _ _ => cases e
  | exn _ _ _ _ _ => cases e
  | wd _ => cases e
  | emp h =>
    cases e
    rcases h with (h | ⟨o, h⟩) | ⟨o, its, n, h, hc, _⟩
    · cases h
    · cases h
    · exact .kTuple h hc
  | scr h =>
    cases e
    rcases h with (h | ⟨o, h⟩) | ⟨o, its, n, h, hc, _⟩
    · exact .base (.lst (u _ _ h))
    · exact .base (.frz (u _ _ h))
    · exact .kList h hc
def gIsi (T : String) (g : GE) : GE := fun env w => (g env w).bind fun d w1 => match (tyD d).bind fun t => kitB t T with
  | some b => .ok (.bl b) w1
  | none => .bad
theorem de_isi {e : Expr} {x : Str} {T : String} {p p2 pos : PySem.Pos} {g : GE} (h : DE F e g) (hg : F.sc.names.lookup ("isinstance" : Str) = some .globalImplicit) (hm : F.mg "isinstance" = none) (hg2 : F.sc.names.lookup x = some .globalImplicit) (hm2 : F.mg x = none) (hv : bootBuiltins x = some (.type T))
    (hn : x ≠ "__name__" := by decide +kernel) (hdb : (x == ("__debug__" : Str)) = false := by decide +kernel)
    (hs : ∀ env, starEach [e, Expr.Name x p2] env = (false, eval e env) :: starEach [Expr.Name x p2] env := by intro _; rfl) : DE F (.Call (.Name "isinstance" p) [e, .Name x p2] [] pos) (gIsi T g) := by
  obtain ⟨t, a1, a2⟩ := h.ex
  refine ⟨⟨fun W => tCB (rIsi F.K) (tCons (t W) (tCons (tC (.ty T)) tNil)), fun X W O T' => ?_, fun W C env w σ D H Q K S p => ?_⟩⟩
  · rw [← O.K]
    exact pe_callB call_isi (by show X.env.scope.names.lookup _ = _; rw [O.sc]; exact hg) (by rw [O.mg]; exact hm) (by kernel_rfl) (pa_cons (a1 X W O T') (pa_cons (pe_bltn (by show X.env.scope.names.lookup _ = _; rw [O.sc]; exact hg2) (by rw [O.mg]; exact hm2) hv rfl hn hdb) pa_nil (by rfl)) (hs _)) (by decide +kernel) (by decide +kernel) (hs _) (by rfl)
  · refine a2 W C env w σ D H _ K S ?_
    unfold gIsi at p
    cases eg : g env w with
    | bad => rw [eg] at p; exact p.elim
    | exc c fs w1 => rw [eg] at p; exact p
    | ok d w1 =>
      rw [eg] at p
      simp only [Out.bind] at p
      intro v D' H' S' s' r
      cases et : tyD d with
      | none => rw [et] at p; exact p.elim
      | some t =>
        rw [et] at p
        simp only [Option.bind] at p
        cases ek : kitB t T with
        | none => rw [ek] at p; exact p.elim
        | some b =>
          rw [ek] at p
          exact ⟨v, .ty T, .type t, .type T, b, rfl, .ty T, K.K ▸ tyD_rp S'.up r et, kit_ty ek, p _ D' H' S' s' (.bl b)⟩
/-! ### methods of texts -/
/-- sep.join(texts) -/
def oJoin (a : Str) : Dt → Option Dt
  | .lst ds => (strsOf ds).bind fun ys => if (ys.map (·.length)).sum + ys.length * a.length ≤ 16777216 then some (.str (Txt.join a ys)) else none
  | .tup ds => (strsOf ds).bind fun ys => if (ys.map (·.length)).sum + ys.length * a.length ≤ 16777216 then some (.str (Txt.join a ys)) else none
  | _ => none
def gM1 (f : Str → Dt → Option Dt) (go ge : GE) : GE := fun env w => (go env w).bind fun a w1 => match a with
  | .str x => (ge env w1).bind fun d w2 => match f x d with
    | some r => .ok r w2
    | none => .bad
  | _ => .bad
theorem den_m1 {W : WX} {to te : TE} {go ge : GE} {r : V → List V → Hp → VK → Prop} {f : Str → Dt → Option Dt} (ho : DenE F W to go) (he : DenE F W te ge)
    (hr : ∀ k : Kp, k.K = F.K → ∀ D H x y d z, Sub D H → Rp k D y d → f x d = some z → ∀ Q : VK, (∀ v D' H', Ex D H D' H' → Rp k D' v z → Q v H') → r (.str x) [y] H Q) : DenE F W (tM1 r to te) (gM1 f go ge) := by
  intro C env w σ D H Q K S p
  refine ho C env w σ D H _ K S ?_
  unfold gM1 at p
  cases ea : go env w with
  | bad => rw [ea] at p; exact p.elim
  | exc c fs w1 => rw [ea] at p; exact p
  | ok a w1 =>
    rw [ea] at p
    simp only [Out.bind] at p
    intro v D1 H1 S1 s1 ra
    cases a with
    | str x =>
      cases ra
      refine ⟨⟨x, rfl⟩, he C env w1 σ D1 H1 _ K S1 ?_⟩
      simp only at p
      cases eb : ge env w1 with
      | bad => rw [eb] at p; exact p.elim
      | exc c fs w2 => rw [eb] at p; exact p
      | ok d w2 =>
        rw [eb] at p
        intro y D2 H2 S2 s2 rb
        simp only [Out.bind] at p
        cases ef : f x d with
        | none => rw [ef] at p; exact p.elim
        | some z =>
          rw [ef] at p
          exact hr C.k K.K D2 H2 x y d z S2.up rb ef Q fun v D' H' x' rv => p v D' H' (S2.ex x') (s1.trans (s2.trans x'.sub)) rv
    | _ => exact p.elim
theorem de_join {o e : Expr} {apos pos : PySem.Pos} {go ge : GE} (ho : DE F o go) (he : DE F e ge) (hs : ∀ env, starEach [e] env = [(false, eval e env)] := by intro _; rfl) (hbase : ∀ env, attributeBase o "join" env (eval o env) = eval o env := by intro _; rfl) (hline : (apos.endLine == pos.line) = true := by rfl) :
    DE F (.Call (.Attribute o "join" apos) [e] [] pos) (gM1 oJoin go ge) := by
  obtain ⟨to, o1, o2⟩ := ho.ex
  obtain ⟨te, e1, e2⟩ := he.ex
  refine ⟨⟨fun W => tM1 (fun x xs H Q => ∃ a p, ∃ ys : List Str, x = .str a ∧ xs = [.ref p] ∧ (SqL F.K H p (ys.map V.str) ∨ SqT F.K H p (ys.map V.str)) ∧ (ys.map (·.length)).sum + ys.length * a.length ≤ 16777216 ∧ Q (.str (Txt.join a ys)) H) (to W) (te W),
    fun X W O T => by rw [← O.K]; exact pe_join (o1 X W O T) (e1 X W O T) (hs _) (hbase _) hline, fun W => den_m1 (o2 W) (e2 W) fun k hK D H x y d z u r e Q q => ?_⟩⟩
  have fin : ∀ ds vs ys p, RpL k D vs ds → strsOf ds = some ys → (SqL F.K H p vs ∨ SqT F.K H p vs) → ((ys.map (·.length)).sum + ys.length * x.length ≤ 16777216) → ∃ a p', ∃ ys : List Str, V.str x = .str a ∧ [V.ref p] = [V.ref p'] ∧ (SqL F.K H p' (ys.map V.str) ∨ SqT F.K H p' (ys.map V.str)) ∧ (ys.map (·.length)).sum + ys.length * a.length ≤ 16777216 ∧ (Q (.str (Txt.join x ys)) H → Q (.str (Txt.join a ys)) H) := fun ds vs ys p r es hq hl => by
    have ev := strsOf_rp r es
    rw [ev] at hq
    exact ⟨x, p, ys, rfl, rfl, hq, hl, id⟩
  unfold oJoin at e
  split at e
  · rename_i ds
    cases es : strsOf ds with
    | none => rw [es] at e; cases e
    | some ys =>
      rw [es] at e
      simp only [Option.bind] at e
      split at e
      · rename_i hl
        cases e
        cases r with
        | lst hd rl =>
          have ev := strsOf_rp rl es
          rw [ev] at hd
          exact ⟨x, _, ys, rfl, rfl, .inl (.inl (.inl (u _ _ hd))), hl, q _ D H (Ex.refl u) (.str _)⟩
      · cases e
  · rename_i ds
    cases es : strsOf ds with
    | none => rw [es] at e; cases e
    | some ys =>
      rw [es] at e
      simp only [Option.bind] at e
      split at e
      · rename_i hl
        cases e
        cases r with
        | tup hd rl =>
          have ev := strsOf_rp rl es
          rw [ev] at hd
          exact ⟨x, _, ys, rfl, rfl, .inr (tupS u hd), hl, q _ D H (Ex.refl u) (.str _)⟩
      · cases e
  · cases e
/-! ### x, y = a, b; x, y, z = a, b, c -/
def sPar (is : List Nat) (ga : GA) : GS := fun env w => match ga env w with
  | .ok ds w1 => if ds.length = is.length ∧ is.all (fun i => decide (i < env.length)) then .nx ((is.zip ds).foldl (fun e p => e.set p.1 (.dat p.2)) env) w1 else .bad
  | .exc c fs w1 => .exc c fs env w1
  | .bad => .bad
theorem ds_par3 {x y z : Str} {a b c : Expr} {px py pz pt pt2 pos : PySem.Pos} {kt k2 : Nat} {ga : GA} (i j l : Nat) (hc : F.calm = true) (hN : F.N.Nodup) (hi : F.N[i]? = some x) (hj : F.N[j]? = some y) (hl : F.N[l]? = some z) (hij : i ≠ j) (hil : i ≠ l) (hjl : j ≠ l)
    (hx : F.sc.names.lookup x = some .local) (hy : F.sc.names.lookup y = some .local) (hz : F.sc.names.lookup z = some .local) (h : DL F [a, b, c] ga)
    (hw : ∀ env, env.scope = F.sc → swappedStores [.Tuple [.Name x px, .Name y py, .Name z pz] kt pt] (.Tuple [a, b, c] k2 pt2) env = pure (some [x, y, z]))
    (hs : ∀ env, swapsWithSole [.Tuple [.Name x px, .Name y py, .Name z pz] kt pt] (.Tuple [a, b, c] k2 pt2) pos.line env = pure false := by intro _; rfl) :
    DS F (.Assign [.Tuple [.Name x px, .Name y py, .Name z pz] kt pt] (.Tuple [a, b, c] k2 pt2) pos) (sPar [i, j, l] ga) := by
  obtain ⟨t, a1, a2⟩ := h.ex
  refine ⟨⟨fun W => tPar3 i j l (t W), fun X W O T => ?_, fun W C env w σ D H Dn K S q => ?_⟩⟩
  · exact ps_par3 (O.calm hc) (by rw [O.N]; exact hN) (by rw [O.N]; exact hi) (by rw [O.N]; exact hj) (by rw [O.N]; exact hl) hij hil hjl (by rw [O.sc]; exact hx) (by rw [O.sc]; exact hy) (by rw [O.sc]; exact hz) (a1 X W O T) (hw _ O.sc) (hs _)
  · refine a2 W C env w σ D H _ K S ?_
    unfold sPar at q
    cases e : ga env w with
    | bad => rw [e] at q; exact q
    | exc c fs w1 => rw [e] at q; exact q σ
    | ok ds w1 =>
      rw [e] at q
      simp only at q
      split at q
      · rename_i hl
        intro vs D' H' S' s' r
        obtain ⟨h1, h2⟩ := hl
        match ds, h1, r, q with
        | [d1, d2, d3], _, r, q =>
          obtain ⟨v, u, t, rfl, r1, r2, r3⟩ := three_rp r
          simp at h2
          exact ⟨v, u, t, rfl, q _ D' H' (((S'.setD r1 h2.1).setD r2 (by rw [List.length_set]; exact h2.2.1)).setD r3 (by rw [List.length_set, List.length_set]; exact h2.2.2))⟩
        | [], h, _, _ => simp at h
        | [_], h, _, _ => simp at h
        | [_, _], h, _, _ => simp at h
        | _ :: _ :: _ :: _ :: _, h, _, _ => simp at h
      · exact q.elim
end
end Dn
end
section
/-! The law's own def: the draws' list is made, the rest goes by it. -/
namespace Dn
open PySem L2
section
variable {k k' : Kp} {D : Hp}
structure KpUp (k k' : Kp) : Prop where
  K : k.K = k'.K
  cls : k.cls = k'.cls
  pd : ∀ a, k.pd = some a → k'.pd = some a
  xa : ∀ p, k.xa = some p → k'.xa = some p
mutual
theorem Rp.kp (h : KpUp k k') : ∀ {v : V} {d : Dt}, Rp k D v d → Rp k' D v d
  | _, _, .non => .non
  | _, _, .bl b => .bl b
  | _, _, .int i => .int i
  | _, _, .str x => .str x
  | _, _, .tup s r => .tup s (RpL.kp h r)
  | _, _, .lst s r => .lst s (RpL.kp h r)
  | _, _, .dic s e r => .dic s e (RpL.kp h r)
  | _, _, .dicT s e r => .dicT s e (RpL.kp h r)
  | _, _, .dicF s e r => .dicF s e (RpL.kp h r)
  | _, _, .obj s o c e r => .obj s o (h.cls ▸ c) e (RpL.kp h r)
  | _, _, .exn s c o e r => .exn (h.xa _ s) (h.cls ▸ c) o e (RpL.kp h r)
  | _, _, .wd e => .wd (h.pd _ e)
  | _, _, .scr s => .scr (h.K ▸ s)
  | _, _, .emp s => .emp (h.K ▸ s)
theorem RpL.kp (h : KpUp k k') : ∀ {vs : List V} {ds : List Dt}, RpL k D vs ds → RpL k' D vs ds
  | _, _, .nil => .nil
  | _, _, .cons a r => .cons (Rp.kp h a) (RpL.kp h r)
end
theorem Kids.kp (h : KpUp k k') {H : Hp} : ∀ {ps : List Addr} {dss : List (List Dt)}, Kids k D H ps dss → Kids k' D H ps dss
  | [], [], _ => trivial
  | p :: ps, ds :: dss, ⟨⟨vs, e, r⟩, t⟩ => ⟨⟨vs, e, r.kp h⟩, Kids.kp h t⟩
  | [], _ :: _, h => h.elim
  | _ :: _, [], h => h.elim
theorem FldsOk.kp (h : KpUp k k') {H : Hp} : ∀ {vs : List (Str × V)} {fs : List (Str × Fv)} {fp : List Addr}, FldsOk k D H vs fs fp → FldsOk k' D H vs fs fp
  | [], [], _, z => z
  | (n, v) :: vs, (m, .d x) :: fs, fp, ⟨e, r, t⟩ => ⟨e, r.kp h, FldsOk.kp h t⟩
  | (n, v) :: vs, (m, .l ds) :: fs, fp, ⟨e, q, r, us, e1, e2, hq, rr, t⟩ => ⟨e, q, r, us, e1, e2, hq, rr.kp h, FldsOk.kp h t⟩
  | [], (_, .d _) :: _, _, h => h.elim
  | [], (_, .l _) :: _, _, h => h.elim
  | _ :: _, [], _, h => h.elim
theorem InsAt.kp (h : KpUp k k') {H : Hp} {p : Addr} {c : Str} {fs : List (Str × Fv)} {fp : List Addr} : InsAt k D H p c fs fp → InsAt k' D H p c fs fp
  | ⟨Ca, dx, vs, r, e, h1, h2, h3, t⟩ => ⟨Ca, dx, vs, r, e, h1, h2, h.cls ▸ h3, t.kp h⟩
end
theorem OwnAt.kp {C C' : Ct} {D H : Hp} {p : Addr} (h : KpUp C.k C'.k) (hs : ∀ p, C.k.sf = some p → C'.k.sf = some p) : ∀ {o : Ow} {fp : List Addr}, OwnAt C D H p o fp → OwnAt C' D H p o fp
  | .lst _, _, ⟨e, vs, hp, r⟩ => ⟨e, vs, hp, r.kp h⟩
  | .dK _, _, ⟨e, vs, hp, q, r⟩ => ⟨e, vs, hp, q, r.kp h⟩
  | .dT _, _, ⟨e, vs, hp, q, r⟩ => ⟨e, vs, hp, q, r.kp h⟩
  | .ins _ _, _, o => InsAt.kp h o
  | .slf _ _, _, ⟨z, o⟩ => ⟨hs _ z, o.kp h⟩
  | .ll _, _, ⟨ps, e, hp, t⟩ => ⟨ps, e, hp, t.kp h⟩
  | .dL _, _, ⟨ps, ks, e, hp, q1, q2, t⟩ => ⟨ps, ks, e, hp, q1, q2, t.kp h⟩
theorem SlotsOk.kp {C C' : Ct} {D H : Hp} (h : KpUp C.k C'.k) (hs : ∀ p, C.k.sf = some p → C'.k.sf = some p) : ∀ {ss : List Sl} {σ : St} {fp : List Addr}, SlotsOk C D H ss σ fp → SlotsOk C' D H ss σ fp
  | [], [], _, s => s
  | .un :: ss, x :: xs, fp, ⟨f1, f2, e, a, r⟩ => ⟨f1, f2, e, a, r.kp h hs⟩
  | .dat d :: ss, x :: xs, fp, ⟨f1, f2, e, ⟨a, v, hv, q⟩, r⟩ => ⟨f1, f2, e, ⟨a, v, hv, q.kp h⟩, r.kp h hs⟩
  | .own o :: ss, x :: xs, fp, ⟨f1, f2, e, ⟨p, hp, q⟩, r⟩ => ⟨f1, f2, e, ⟨p, hp, q.kp h hs⟩, r.kp h hs⟩
  | [], _ :: _, _, s => s.elim
  | _ :: _, [], _, s => s.elim
def w0 (ns : List Int) : Ds := ⟨ns, 0, 0, 7⟩
/-- the draws' list made at slot j -/
theorem Sta.begin {C : Ct} {env : Env} {w : Ds} {σ : St} {D H : Hp} {j : Nat} {ns : List Int} (S : Sta C env w σ D H []) (hpd : C.k.pd = none) (hns : C.k.ns = ns) (e : env[j]? = some (.own (.lst [.scr ns, .int 0, .int 0, .int 7]))) :
    ∃ k1 : Kp, k1.K = C.k.K ∧ k1.cls = C.k.cls ∧ k1.tb = C.k.tb ∧ k1.xa = C.k.xa ∧ Sta ⟨k1, H, D⟩ ((hideO (env.set j .un)).set j (.dat .wd)) (w0 ns) σ D H [] := by
  obtain ⟨p, fp, hx, ow, S1⟩ := S.take e
  obtain ⟨ef, vs, hp, r⟩ := ow
  subst ef
  cases r with
  | cons r1 r =>
    cases r with
    | cons r2 r =>
      cases r with
      | cons r3 r =>
        cases r with
        | cons r4 r =>
          cases r
          cases r2
          cases r3
          cases r4
          cases r1 with
          | @scr a _ hs =>
            have up : KpUp C.k { C.k with pd := some p, sq := a } := ⟨rfl, rfl, fun a e => (by rw [hpd] at e; cases e), fun _ e => e⟩
            obtain ⟨fs, g1, g2, g3⟩ := S1.sl
            have hpn := g3 p (by simp)
            refine ⟨{ C.k with pd := some p, sq := a }, rfl, rfl, rfl, rfl, S1.up, Sub.refl _, fun _ _ _ q => q, fun a q n => absurd q n, ⟨fun q hq => ?_, fun q hq => S1.wd.tb q hq, S1.wd.tp⟩, ?_⟩
            · cases hq
              exact ⟨hp, hpn.1, hns.symm, by rw [hns]; exact hs⟩
            · have hj : j < (hideO (env.set j .un)).length := by
                have l1 := (slots_hideO g1).length
                have l2 := S.len
                rw [l1]
                cases z : Nat.decLt j σ.length with
                | isTrue h => exact h
                | isFalse h => rw [List.getElem?_eq_none (Nat.le_of_not_lt h)] at hx; cases hx
              have g4 : SlotsOk ⟨{ C.k with pd := some p, sq := a }, H, D⟩ D H (hideO (env.set j .un)) σ [] := SlotsOk.kp (C := C) (C' := ⟨{ C.k with pd := some p, sq := a }, H, D⟩) up (fun _ e => e) (slots_hideO g1)
              obtain ⟨fp', k1, k2, k3⟩ := g4.set (i := j) (s := .dat .wd) (x := some (.ref p)) (fx := []) ⟨rfl, _, rfl, .wd rfl⟩ hj (by simp)
              have e0 : fp' = [] := List.eq_nil_iff_forall_not_mem.mpr fun q hq => by
                have := k3 q hq
                simp at this
              subst e0
              have eσ : σ.set j (some (.ref p)) = σ := by
                apply List.ext_getElem?
                intro i
                by_cases z : j = i
                · subst z
                  have hlt : j < σ.length := by
                    cases zz : Nat.decLt j σ.length with
                    | isTrue h => exact h
                    | isFalse h => rw [List.getElem?_eq_none (Nat.le_of_not_lt h)] at hx; cases hx
                  rw [hx, List.getElem?_set_self hlt]
                · rw [List.getElem?_set_ne z]
              rw [eσ] at k1
              exact ⟨[], k1, List.nodup_nil, fun q hq => nomatch hq⟩
/-- the law's promise: a row of ints to True -/
def spLaw (K : PySem.W.Frag) (n : Nat) (cs : List (Addr × Addr)) : Sp := fun vs H Q E => ∃ (a : Addr) (ns : List Int), vs = [.ref a] ∧ ns.length ≤ n ∧ (∀ z ∈ ns, Builtin.Int.intBits z ≤ 1048576) ∧ (∀ p ∈ cs, H p.2 = some (.tbl #[])) ∧ SqL K H a (ns.map V.int) ∧ ∀ H', Q (.bl true) H'
theorem law_fn {B : Bs} {N : List Str} {x xn qual : Str} {params : Arguments} {s0 : Stmt} {rest : List Stmt} {scope : Scope} {dvs : List V} {kws : List (Str × V)} {f : Addr} {fd : FuncData} {g0 g1 : GS} {n : Nat} {cs : List (Addr × Addr)} (lv : Nat) (cd : Option (Addr × Addr)) (j : Nat)
    (Fu : FunD B.K xn qual params (s0 :: rest) scope dvs kws f fd) (S : FnScope N [x] scope) (hcq : ∀ q, cd = some q → fd.code = .ref q.1)
    (h0 : DS { toBs := B, N := N, sc := scope, lv := lv, calm := true, top := true, cd := cd, qual := qual ++ ".<locals>." } s0 g0) (h1 : DB { toBs := B, N := N, sc := scope, lv := lv, calm := true, top := true, cd := cd, qual := qual ++ ".<locals>." } rest g1)
    (htb : ∀ p ∈ B.tb, ∃ c, (c, p.1) ∈ cs)
    (hg0 : ∀ ns w, g0 (.dat (.scr ns) :: List.replicate (N.length - 1) .un) w = .nx ((.dat (.scr ns) :: List.replicate (N.length - 1) .un).set j (.own (.lst [.scr ns, .int 0, .int 0, .int 7]))) w) (hj : j < N.length) (hj0 : 0 < j)
    (math : ∀ ns : List Int, ns.length ≤ n → (∀ z ∈ ns, Builtin.Int.intBits z ≤ 1048576) → ∃ w', g1 ((.dat (.scr ns) :: List.replicate (N.length - 1) .un).set j (.dat .wd)) (w0 ns) = .ret (.bl true) w') :
    FnOk B.P B.w B.K B.mg B.base (L2.CX B.P B.w) (lv + 1) f fd [x] (spLaw B.K n cs) := by
  obtain ⟨oc, od, dV, kV, doc, pm, an, cdv, ct, osl, rfl, lk, hcd, _, _⟩ := Fu.ex
  refine fn_of lk hcd S (fun vs H Q E h => by obtain ⟨a, ns, rfl, _⟩ := h; rfl) fun A outer s H vs Q E hr hsp => ?_
  obtain ⟨t0, a1, a2⟩ := h0.ex
  obtain ⟨t1, b1, b2⟩ := h1.ex
  have O : On { toBs := B, N := N, sc := scope, lv := lv, calm := true, top := true, cd := cd, qual := qual ++ ".<locals>." } (cxOf (L2.CX B.P B.w) B.P B.w B.K B.mg B.base N qual scope f cdv A outer s H E) :=
    ⟨rfl, rfl, rfl, rfl, rfl, rfl, rfl, roomU_of hr, fun _ => hr.hd, fun _ => rfl, fun _ _ => rfl, fun _ q e => ⟨hcq q e, rfl⟩, fun _ => ⟨rfl, rfl⟩, fun _ _ h => (nomatch h), fun _ h => Bool.noConfusion h⟩
  have T : Tk (cxOf (L2.CX B.P B.w) B.P B.w B.K B.mg B.base N qual scope f cdv A outer s H E) (fun cls d _ H => E cls d H) := ⟨takes_of rfl rfl rfl rfl, passes_of rfl⟩
  refine ⟨tSeq (t0 fun cls d _ H => E cls d H) (t1 fun cls d _ H => E cls d H), pss_cons (a1 _ _ O T) (b1 _ _ O T), ?_⟩
  obtain ⟨a, ns, rfl, hl, hb, ht, hs, hQ⟩ := hsp
  -- the script as data
  have hD : ∃ D : Hp, Sub D H ∧ SqL B.K D a (ns.map V.int) ∧ (∀ P, H P = some (.tbl #[]) → D P = none) ∧ ∀ b xs, H b = some (.tup xs) → D b = some (.tup xs) := by
    suffices hD0 : ∃ D : Hp, Sub D H ∧ SqL B.K D a (ns.map V.int) ∧ ∀ P, H P = some (.tbl #[]) → D P = none by
      obtain ⟨D, h1, h2, h3⟩ := hD0
      refine ⟨fun b => match H b with
        | some (.tup xs) => some (.tup xs)
        | _ => D b, fun b u e => ?_, sqL_sub (fun b u e => ?_) h2, fun P hP => ?_, fun b xs e => ?_⟩
      · (try simp only at e)
        split at e
        · rename_i q; rw [q]; exact e
        · exact h1 b u e
      · have := h1 b u e
        (try simp only)
        split
        · rename_i q; rw [q] at this; exact this
        · exact e
      · (try simp only)
        rw [hP]
        exact h3 P hP
      · (try simp only)
        rw [e]
    rcases hs with (h | ⟨o, h⟩) | h
    · refine ⟨fun b => if b = a then H a else none, fun b u e => ?_, .inl (.inl (by simp [h])), fun P hP => ?_⟩
      · by_cases z : b = a
        · rw [z] at e ⊢; simpa using e
        · simp [z] at e
      · have : P ≠ a := fun z => by rw [z, h] at hP; cases hP
        simp [this]
    · refine ⟨fun b => if b = a then H a else none, fun b u e => ?_, .inl (.inr ⟨o, by simp [h]⟩), fun P hP => ?_⟩
      · by_cases z : b = a
        · rw [z] at e ⊢; simpa using e
        · simp [z] at e
      · have : P ≠ a := fun z => by rw [z, h] at hP; cases hP
        simp [this]
    · exact ⟨fun _ => none, fun b u e => (by cases e), Or.inr h, fun _ _ => rfl⟩
  obtain ⟨D, up, hsD, hPD, htp⟩ := hD
  have Sb : Sta ⟨⟨B.K, B.cls, none, a, ns, B.tb, none, none⟩, H, D⟩ (.dat (.scr ns) :: List.replicate (N.length - 1) .un) ⟨ns, 0, 0, 7⟩ (L2.start N [.ref a]) D H [] := by
    refine ⟨up, Sub.refl _, fun _ _ _ e => e, fun b e n => absurd e n, ⟨fun p hp => (by cases hp), fun p hp => ?_, htp⟩, [], ?_, List.nodup_nil, fun q hq => (by cases hq)⟩
    · obtain ⟨c, hc⟩ := htb p hp
      have hP := ht _ hc
      exact ⟨LamX.TabS.nil hP, hPD _ hP⟩
    · exact ⟨[], [], rfl, ⟨rfl, _, rfl, .scr hsD⟩, slots_rep _⟩
  refine a2 _ ⟨⟨B.K, B.cls, none, a, ns, B.tb, none, none⟩, H, D⟩ _ ⟨ns, 0, 0, 7⟩ _ D H _ ⟨rfl, rfl, rfl, rfl⟩ Sb ?_
  rw [hg0]
  intro σ1 D1 H1 S1
  have hlen : (Sl.dat (.scr ns) :: List.replicate (N.length - 1) Sl.un).length = N.length := by simp; omega
  obtain ⟨k1, e1, e2, e3, e4, S2⟩ := S1.begin (j := j) (ns := ns) rfl rfl (by rw [List.getElem?_set_self (by rw [hlen]; exact hj)])
  have hh : hideO ((((Sl.dat (.scr ns) :: List.replicate (N.length - 1) Sl.un).set j (.own (.lst [.scr ns, .int 0, .int 0, .int 7]))).set j .un)) = (Sl.dat (.scr ns) :: List.replicate (N.length - 1) Sl.un).set j .un := by
    rw [List.set_set]
    have key : ∀ l : List Sl, (∀ s ∈ l, ∀ o, s ≠ .own o) → hideO l = l := by
      intro l
      induction l with
      | nil => intro _; rfl
      | cons s r ih =>
        intro h
        cases s with
        | un => unfold hideO; rw [ih fun s hs => h s (List.mem_cons_of_mem _ hs)]
        | dat d => unfold hideO; rw [ih fun s hs => h s (List.mem_cons_of_mem _ hs)]
        | own o => exact absurd rfl (h _ List.mem_cons_self o)
    refine key _ fun s hs o e => ?_
    rcases List.mem_or_eq_of_mem_set hs with z | z
    · rcases List.mem_cons.mp z with z | z
      · rw [z] at e; cases e
      · rw [List.eq_of_mem_replicate z] at e; cases e
    · rw [z] at e; cases e
  rw [hh, List.set_set] at S2
  obtain ⟨w', em⟩ := math ns hl hb
  refine b2 _ ⟨k1, H1, D1⟩ _ (w0 ns) σ1 D1 H1 _ ⟨e1, e2, e3, e4⟩ S2 ?_
  rw [em]
  intro e σ v D' H' _ rv
  cases rv
  exact hQ H'
end Dn
end
section
/-! Small rules; defs out of the head's facts. -/
namespace Dn
open PySem L2
section
variable {F : Fc}
def gNeg (g : GE) : GE := fun env w => (g env w).bind fun a w1 => match a with
  | .int i => .ok (.int (-i)) w1
  | _ => .bad
theorem de_neg {a : Expr} {pos : PySem.Pos} {g : GE} (h : DE F a g) : DE F (.UnaryOp .USub a pos) (gNeg g) := by
  obtain ⟨t, a1, a2⟩ := h.ex
  refine ⟨⟨fun W => tUn (rU fun i => .int (-i)) (t W), fun X W O T => pe_un un_neg (a1 X W O T), fun W C env w σ D H Q K S p => ?_⟩⟩
  refine a2 W C env w σ D H _ K S ?_
  unfold gNeg at p
  cases e : g env w with
  | bad => rw [e] at p; exact p.elim
  | exc c fs w1 => rw [e] at p; exact p
  | ok d w1 =>
    rw [e] at p
    simp only [Out.bind] at p
    intro v D' H' S' s' r
    cases d with
    | int i => cases r; exact ⟨i, rfl, p _ D' H' S' s' (.int _)⟩
    | _ => exact p.elim
/-- return f(..): an owned thing is handed on -/
def sRetC (na : Nat) (dds : List Dt) (m : Mf) (ga : GA) : GS := fun env w => match ga env w with
  | .ok ds w1 => if ds.length = na then (match m (ds ++ dds) w1 with
    | .dat r w2 => .ret r w2
    | .own o w2 => .rtf o w2
    | .exc c fs w2 => .exc c fs env w2
    | .bad => .bad) else .bad
  | .exc c fs w1 => .exc c fs env w1
  | .bad => .bad
theorem ds_retC {x : Str} {p pos pos2 : PySem.Pos} {e : Expr} {es : List Expr} {ga : GA} {j na : Nat} {dds : List Dt} {m : Mf} (G : FkA F.toBs j x na dds m) (hj : j ≤ F.lv) (hg : F.sc.names.lookup x = some .globalImplicit) (h : DL F (e :: es) ga)
    (hdb : (x == ("__debug__" : Str)) = false := by decide +kernel) (he : ∀ env, starEach (e :: es) env = (false, eval e env) :: starEach es env := by intro _; rfl) (hpl : ∀ env, (backTo pos (starEach es env)).any (·.1) = false := by intro _; rfl) (hx : F.xa = none := by rfl) (hc : F.calm = true := by rfl) :
    DS F (.Return (some (.Call (.Name x p) (e :: es) [] pos)) pos2) (sRetC na dds m ga) := by
  obtain ⟨ta, a1, a2⟩ := h.ex
  obtain ⟨f, fd, ps, dvs, ds, hm, hk, fn, hb, hd, hn, hr⟩ := G.ex
  refine ⟨⟨fun W => tRet (tCallSD (spM F.K F.cls F.tb ps.length m) dvs (WE W) (ta W)), fun X W O T => ps_ret ?_, fun W C env w σ D H Dn K S q => ?_⟩⟩
  · refine pe_callSD (CX := L2.CX X.prog X.w) (f := f) (fd := fd) (ps := ps) (ds := ds) (k := j) ?_ ((O.full hc).mono hj) ?_ ?_ ?_ ?_ hd (fun σ => passAt T.tk σ) (a1 X W O T) hdb (he _) (hpl _)
    · rw [O.prog, O.w, O.K, O.mg, O.base]; exact fn
    · show X.env.scope.names.lookup x = _; rw [O.sc]; exact hg
    · rw [O.mg]; exact hm
    · rw [O.K]; exact hk
    · rw [O.K]; exact hb
  · refine a2 W C env w σ D H _ K S ?_
    unfold sRetC at q
    cases ea : ga env w with
    | bad => rw [ea] at q; exact q.elim
    | exc c fs w1 => rw [ea] at q; exact q σ
    | ok ds w1 =>
      rw [ea] at q
      simp only at q
      intro vs D1 H1 S1 s1 r
      by_cases hl : ds.length = na
      · rw [if_pos hl] at q
        refine ⟨by rw [List.length_append, r.length, (hr C.k D1 K.K K.cls).length, hl, hn], C.k, D1, ds ++ dds, w1, K.K, K.cls, K.tb, K.xa.trans hx, S1.up, r.append (hr C.k D1 K.K K.cls), S1.wd, ?_⟩
        cases em : m (ds ++ dds) w1 with
        | bad => rw [em] at q; exact q
        | dat d w2 => rw [em] at q; exact fun v D' H' x rv => q env σ v D' H' (S1.ew (fun _ h => nomatch h) (Ew.ct (C := ⟨C.k, H1, D1⟩) (C' := C) rfl x)) rv
        | exc c fs w2 => rw [em] at q; exact fun Ca d D' H' x xx => q σ Ca d D' H' (S1.ew (fun _ h => nomatch h) (Ew.ct (C := ⟨C.k, H1, D1⟩) (C' := C) rfl x)) xx
        | own o w2 =>
          rw [em] at q
          exact fun p fp D' H' x ow nd hq => q env σ p fp D' H' (S1.freshW (Ew.ct (C := ⟨C.k, H1, D1⟩) (C' := C) rfl x) nd hq) (ow.ct rfl)
      · rw [if_neg hl] at q; exact q.elim
end
/-! ### defs out of facts -/
theorem fk_of {B : Bs} {x qual : Str} {params : Arguments} {body : List Stmt} {scope : Scope} {f : Addr} {fd : FuncData} {ps : List Str} {m : Mf} {j : Nat} (Fu : FunD B.K x qual params body scope [] [] f fd) (hm : B.mg x = some (.ref f))
    (fn : FnOk B.P B.w B.K B.mg B.base (L2.CX B.P B.w) j f fd ps (spM B.K B.cls B.tb ps.length m)) (hb : Binds B.K fd ps []) : FkA B j x ps.length [] m :=
  ⟨f, fd, ps, [], [], hm, Fu.kp, fn, hb, .nil, rfl, fun _ _ _ _ => .nil⟩
end Dn
end
section
/-! What the printed texts share. -/
namespace Dn
open PySem L2
/-- the statements at a path: .inl i: the body of the i-th statement, .inr i: its other branch -/
def bodyAt : List Stmt → List (Nat ⊕ Nat) → List Stmt
  | ss, [] => ss
  | ss, .inl i :: r => (match ss.getD i (.Pass ⟨0, 0, 0, 0⟩) with
    | .For _ _ b _ _ => bodyAt b r
    | .While _ b _ _ => bodyAt b r
    | .If _ b _ _ => bodyAt b r
    | .Try b _ _ _ _ => bodyAt b r
    | _ => [])
  | ss, .inr i :: r => (match ss.getD i (.Pass ⟨0, 0, 0, 0⟩) with
    | .If _ _ b _ => bodyAt b r
    | _ => [])
end Dn
end
section
/-! j -> 5 j + 1 modulo 2^k, from 0, runs through all places (for sets of tuples of any size; nothing uses it yet). -/
namespace Lcg
def s : Nat → Nat
  | 0 => 0
  | n + 1 => 5 * s n + 1
theorem s_add (a : Nat) : ∀ d, s (a + d) = 5 ^ d * s a + s d
  | 0 => by simp [s]
  | d + 1 => by
    rw [← Nat.add_assoc]
    show 5 * s (a + d) + 1 = 5 ^ (d + 1) * s a + (5 * s d + 1)
    rw [s_add a d, Nat.pow_succ, Nat.mul_add, ← Nat.add_assoc]
    congr 2
    rw [Nat.mul_comm (5 ^ d) 5, Nat.mul_assoc]
theorem s_par : ∀ n, s n % 2 = n % 2
  | 0 => rfl
  | n + 1 => by
    have := s_par n
    show (5 * s n + 1) % 2 = (n + 1) % 2
    omega
theorem five_mod : ∀ n, 5 ^ n % 4 = 1
  | 0 => rfl
  | n + 1 => by
    have := five_mod n
    rw [Nat.pow_succ]
    omega
theorem s_two (m : Nat) : s (m + m) = s m * (5 ^ m + 1) := by
  rw [s_add, Nat.mul_add, Nat.mul_one, Nat.mul_comm]
theorem odd_cop {a : Nat} (h : a % 2 = 1) (k : Nat) : Nat.Coprime (2 ^ k) a := by
  refine Nat.Coprime.pow_left k ?_
  have g := Nat.gcd_dvd_left 2 a
  have g2 := Nat.gcd_dvd_right 2 a
  have le := Nat.le_of_dvd (by decide) g
  show Nat.gcd 2 a = 1
  have pos : 0 < Nat.gcd 2 a := Nat.gcd_pos_of_pos_left _ (by decide)
  by_cases e : Nat.gcd 2 a = 2
  · rw [e] at g2
    omega
  · omega
theorem dvd_s : ∀ (k n : Nat), 2 ^ k ∣ s n → 2 ^ k ∣ n
  | 0, n, _ => by simp
  | k + 1, n, h => by
    have even : s n % 2 = 0 := by
      have : 2 ∣ s n := Nat.dvd_trans ⟨2 ^ k, by rw [Nat.pow_succ, Nat.mul_comm]⟩ h
      omega
    have ne : n % 2 = 0 := by rw [← s_par]; exact even
    obtain ⟨m, rfl⟩ : ∃ m, n = m + m := ⟨n / 2, by omega⟩
    have f := five_mod m
    obtain ⟨o, ho⟩ : ∃ o, 5 ^ m + 1 = 2 * o := ⟨(5 ^ m + 1) / 2, by omega⟩
    have oo : o % 2 = 1 := by omega
    rw [s_two, ho, Nat.pow_succ] at h
    have h2 : 2 ^ k * 2 ∣ s m * o * 2 := by
      rw [Nat.mul_assoc, Nat.mul_comm o 2]; exact h
    have h3 : 2 ^ k ∣ s m * o := Nat.dvd_of_mul_dvd_mul_right (by decide) h2
    have h4 : 2 ^ k ∣ s m := (odd_cop oo k).dvd_of_dvd_mul_right h3
    obtain ⟨c, hc⟩ := dvd_s k m h4
    exact ⟨c, by rw [Nat.pow_succ, Nat.mul_assoc, Nat.mul_comm 2 c, ← Nat.mul_assoc, ← hc]; omega⟩
theorem s_inj {k a b : Nat} (ab : a < b) (hb : b - a < 2 ^ k) : s a % 2 ^ k ≠ s b % 2 ^ k := fun e => by
  obtain ⟨d, rfl⟩ : ∃ d, b = d + a := ⟨b - a, by omega⟩
  have eq := s_add d a
  have h1 : 2 ^ k ∣ 5 ^ a * s d := by
    have z := Nat.dvd_of_mod_eq_zero (Nat.sub_mod_eq_zero_of_mod_eq e.symm)
    rw [eq, Nat.add_sub_cancel] at z
    exact z
  have odd : (5 ^ a) % 2 = 1 := by have := five_mod a; omega
  have h2 : 2 ^ k ∣ s d := (odd_cop odd k).dvd_of_dvd_mul_left h1
  have h3 := Nat.le_of_dvd (by omega) (dvd_s k d h2)
  omega
theorem nd_len : ∀ {xs ys : List Nat}, xs.Nodup → (∀ c ∈ xs, c ∈ ys) → xs.length ≤ ys.length
  | [], _, _, _ => by simp
  | x :: xs, ys, n, h => by
    have hn := List.nodup_cons.mp n
    have hx := h x List.mem_cons_self
    have := nd_len (xs := xs) (ys := ys.erase x) hn.2 fun c hc => (List.mem_erase_of_ne (fun e : c = x => hn.1 (e ▸ hc))).mpr (h c (List.mem_cons_of_mem _ hc))
    rw [List.length_erase_of_mem hx] at this
    have := List.length_pos_of_mem hx
    simp only [List.length_cons]
    omega
/-- every place is met within 2^k steps, from anywhere -/
theorem s_from (c : Nat) {k j : Nat} (hj : j < 2 ^ k) : ∃ b, b < 2 ^ k ∧ s (c + b) % 2 ^ k = j := by
  have nd : ((List.range (2 ^ k)).map fun b => s (c + b) % 2 ^ k).Nodup := by
    refine List.pairwise_map.mpr (List.Pairwise.imp_of_mem ?_ List.pairwise_lt_range)
    intro a b _ hb lt
    exact s_inj (by omega) (by have := List.mem_range.mp hb; omega)
  by_cases m : j ∈ (List.range (2 ^ k)).map fun b => s (c + b) % 2 ^ k
  · obtain ⟨b, hb, e⟩ := List.mem_map.mp m
    exact ⟨b, List.mem_range.mp hb, e⟩
  · have := nd_len (xs := j :: (List.range (2 ^ k)).map fun b => s (c + b) % 2 ^ k) (ys := List.range (2 ^ k)) (List.nodup_cons.mpr ⟨m, nd⟩) fun c' hc => by
      rcases List.mem_cons.mp hc with e | hc
      · rw [e]; exact List.mem_range.mpr hj
      · obtain ⟨b, _, e⟩ := List.mem_map.mp hc
        rw [← e]
        exact List.mem_range.mpr (Nat.mod_lt _ (Nat.two_pow_pos k))
    simp at this
    omega
/-- stepping modulo 2^k is s -/
theorem step_mod (k n : Nat) : (5 * (s n % 2 ^ k) + 1) % 2 ^ k = s (n + 1) % 2 ^ k := by
  show _ = (5 * s n + 1) % 2 ^ k
  rw [Nat.add_mod, Nat.mul_mod, Nat.mod_mod, ← Nat.mul_mod, ← Nat.add_mod]
end Lcg
end
section
/-! Sets of tuples of ints, up to some thousand of them: the tables. -/
namespace Tg
open PySem PySem.Spec PyProof.Rows L2
/-! ### the way of a search -/
/-- every place begins a run early enough -/
def Rnd (m : Nat) : Prop := m % 2 = 1 ∧ ∀ (h : Int) (j : Nat), j ≤ m → ∃ n, n ≤ m + 12 ∧ runI m (SetTable.bits h) n = j
theorem lcg_s {m k : Nat} (hm : m + 1 = 2 ^ k) (b : Nat) : ∀ n, lcgI m (Lcg.s b % 2 ^ k) n = Lcg.s (b + n) % 2 ^ k
  | 0 => rfl
  | n + 1 => by
    show (lcgI m (Lcg.s b % 2 ^ k) n * 5 + 1) % (m + 1) = Lcg.s (b + n + 1) % 2 ^ k
    rw [lcg_s hm b n, hm, Nat.mul_comm, Lcg.step_mod]
theorem rnd_pow {m k : Nat} (hm : m + 1 = 2 ^ (k + 1)) : Rnd m := by
  refine ⟨by rw [Nat.pow_succ] at hm; omega, fun h j hj => ?_⟩
  obtain ⟨b, _, e⟩ := Lcg.s_from 0 (k := k + 1) (j := runI m (SetTable.bits h) 12) (by have := runI_le m (SetTable.bits h) 12; omega)
  obtain ⟨n, hn, e2⟩ := Lcg.s_from (0 + b) (k := k + 1) (j := j) (by omega)
  exact ⟨12 + n, by omega, by rw [runI_tail (bits_lt h), ← e, lcg_s hm, e2]⟩
/-- the probe's c-th state -/
abbrev pr (m : Nat) (h : Int) (c : Nat) : SetTable.Probe := nth m (runAt m (SetTable.bits h % (m + 1)) (SetTable.bits h)) c
theorem pr_add (m : Nat) (h : Int) (c q : Nat) : nth m (pr m h c) q = pr m h (c + q) := (nth_add m c _ q).symm
theorem pr_clean (m : Nat) (h : Int) : ∀ c, (pr m h c).dummy = none
  | 0 => rfl
  | c + 1 => by
    have ih := pr_clean m h c
    show (nth m _ (c + 1)).dummy = none
    rw [nth_succ]
    unfold adv
    split <;> exact ih
theorem way_meets {m : Nat} (R : Rnd m) (h : Int) {j : Nat} (hj : j ≤ m) : ∃ k, k < 10 * SetTable.turns m ∧ way m h k = j := by
  obtain ⟨n, hn, e⟩ := R.2 h j hj
  obtain ⟨k, hk, e2⟩ := run_nth m (SetTable.bits h) n
  exact ⟨k, by unfold SetTable.turns; omega, (congrArg SetTable.Probe.j e2).trans e⟩
theorem way_in (m : Nat) (h : Int) (k : Nat) : way m h k ≤ m := by
  have b := runEnd_bd (m := m) (i := SetTable.bits h % (m + 1)) (Nat.le_of_lt_succ (Nat.mod_lt (SetTable.bits h) (Nat.succ_pos m)))
  have q := nth_in (m := m) k (runAt m (SetTable.bits h % (m + 1)) (SetTable.bits h)) (by
    show SetTable.bits h % (m + 1) + (SetTable.runEnd m (SetTable.bits h % (m + 1)) - SetTable.bits h % (m + 1)) ≤ m
    omega)
  exact Nat.le_trans (Nat.le_add_right _ _) q
/-! ### tables -/
/-- a hash leads to its place by occupied ones -/
def Led (m : Nat) (occ : Nat → Prop) (h : Int) (j : Nat) : Prop := ∃ k, way m h k = j ∧ ∀ k', k' < k → occ (way m h k')
theorem Led.mono {m : Nat} {p q : Nat → Prop} (f : ∀ x, p x → q x) {h : Int} {j : Nat} : Led m p h j → Led m q h j
  | ⟨k, e, b⟩ => ⟨k, e, fun k' l => f _ (b k' l)⟩
structure Tab (t : SetTable) (hs : List Int) : Prop where
  asc : Ris t.place.toList
  none : t.dummies = #[]
  cnt : t.place.toList.length = hs.length
  rnd : Rnd t.mask
  led : ∀ q ∈ hs.zip t.place.toList, Led t.mask (· ∈ t.place.toList) q.1 q.2
variable {t : SetTable} {hs : List Int}
theorem Tab.gap (T : Tab t hs) (hl : hs.length ≤ t.mask) (h : Int) : ∃ K, K < 10 * SetTable.turns t.mask ∧ way t.mask h K ∉ t.place.toList ∧ ∀ k, k < K → way t.mask h k ∈ t.place.toList := by
  obtain ⟨j, hj, hn⟩ := st_missing t.place.toList (t.mask + 1) (by rw [T.cnt]; omega)
  obtain ⟨k, hk, rfl⟩ := way_meets T.rnd h (Nat.le_of_lt_succ hj)
  obtain ⟨K, h1, h2, h3⟩ := st_least (p := fun k => way t.mask h k ∉ t.place.toList) k hn
  exact ⟨K, Nat.lt_of_le_of_lt h1 hk, h2, fun k' hk' => Classical.not_not.mp (h3 k' hk')⟩
theorem Tab.ahead (T : Tab t hs) {h : Int} {K i j : Nat} (hK : way t.mask h K ∉ t.place.toList) (hi : hs[i]? = some h) (hj : t.place.toList[i]? = some j) : ∃ k, k < K ∧ way t.mask h k = j := by
  obtain ⟨k, e, b⟩ := T.led (h, j) (List.mem_of_getElem? (i := i) (by rw [List.getElem?_zip_eq_some]; exact ⟨hi, hj⟩))
  have e : way t.mask h k = j := e
  refine ⟨k, ?_, e⟩
  rcases Nat.lt_trichotomy k K with c | c | c
  · exact c
  · exact absurd (List.mem_of_getElem? hj) (by rw [← e, c]; exact hK)
  · exact absurd (b K c) hK
theorem zip_ins {α β : Type} {xs : List α} {ys : List β} {p : Nat} {x : α} {y : β} (hl : xs.length = ys.length) {q : α × β} (hq : q ∈ (xs.take p ++ x :: xs.drop p).zip (ys.take p ++ y :: ys.drop p)) : q = (x, y) ∨ q ∈ xs.zip ys := by
  rw [List.zip_append (by simp [hl]), List.zip_cons_cons, List.mem_append, List.mem_cons] at hq
  have e : xs.zip ys = (xs.take p).zip (ys.take p) ++ (xs.drop p).zip (ys.drop p) := by
    rw [← List.zip_append (by simp [hl]), List.take_append_drop, List.take_append_drop]
  rw [e, List.mem_append]
  rcases hq with z | z | z
  · exact .inr (.inl z)
  · exact .inl z
  · exact .inr (.inr z)
/-- one put in, at the first gap -/
theorem Tab.put (T : Tab t hs) {h : Int} {K : Nat} (hK : way t.mask h K ∉ t.place.toList) (hb : ∀ k, k < K → way t.mask h k ∈ t.place.toList) {t' : SetTable} {p : Nat} (e : t.put (way t.mask h K) = (t', p)) :
    p = SetTable.below t.place (way t.mask h K) ∧ Tab t' (hs.take p ++ h :: hs.drop p) ∧ t'.mask = t.mask ∧ t'.led = t.led ∧ t'.plain = t.plain ∧ t'.fill = hs.length + 1 := by
  have ep : p = SetTable.below t.place (way t.mask h K) := (congrArg Prod.snd e).symm
  have et : t' = (t.put (way t.mask h K)).1 := (congrArg Prod.fst e).symm
  have em : t'.mask = t.mask := by rw [et]; rfl
  have pl : t'.place.toList = t.place.toList.take p ++ way t.mask h K :: t.place.toList.drop p := by rw [et, ep]; exact put_place _ _
  have pd : t'.dummies = #[] := by rw [et]; exact put_dm T.none _
  have occ : ∀ x, x ∈ t.place.toList → x ∈ t'.place.toList := fun x hx => by rw [pl]; exact mem_ins.mpr (.inr hx)
  have le : p ≤ t.place.toList.length := by rw [ep]; exact (below_cut T.asc _).1
  have hn : t.place[SetTable.below t.place (way t.mask h K)]? ≠ some (way t.mask h K) := fun z => hK (List.mem_of_getElem? (by rw [Array.getElem?_toList]; exact z))
  have cnt : t'.place.toList.length = hs.length + 1 := by rw [pl, len_ins _ le, T.cnt]
  refine ⟨ep, ⟨by rw [et]; exact ris_insert T.asc hn, pd, by rw [cnt, len_ins _ (by rw [← T.cnt]; exact le)], by rw [em]; exact T.rnd, fun q hq => ?_⟩, em, by rw [et]; rfl, by rw [et]; rfl, ?_⟩
  · rw [em]
    rw [pl] at hq
    rcases zip_ins T.cnt.symm hq with z | z
    · rw [z]
      exact ⟨K, rfl, fun k' l => occ _ (hb k' l)⟩
    · exact (T.led q z).mono occ
  · show t'.place.size + t'.dummies.size = _
    rw [pd, ← Array.length_toList, cnt]
    rfl
/-! ### laying all anew -/
theorem free_gap {m : Nat} (R : Rnd m) (owner : Array (Option Nat)) (h : Int) {j : Nat} (hj : j ≤ m) (hf : oAt owner j = none) :
    ∃ K, SetTable.layClean.free m owner (SetTable.turns m) (SetTable.bits h % (m + 1)) (SetTable.bits h) = some (way m h K) ∧ oAt owner (way m h K) = none ∧ ∀ k, k < K → oAt owner (way m h k) ≠ none := by
  obtain ⟨n, hn, e⟩ := R.2 h j hj
  have ew : way m h (off m (SetTable.bits h % (m + 1)) (SetTable.bits h) n) = j := by
    show (nth m _ _).j = j
    rw [nth_off, itL_run]
    exact e
  obtain ⟨K, k1, k2, k3⟩ := st_least (p := fun k => oAt owner (way m h k) = none) _ (show oAt owner (way m h _) = none by rw [ew]; exact hf)
  refine ⟨K, free_spec m owner (SetTable.turns m) n _ _ K (by unfold SetTable.turns; omega) k1 (fun k hk => ?_) ?_, k2, k3⟩
  · have q := k3 k hk
    show (oAt owner (way m h k)).isNone = false
    cases z : oAt owner (way m h k) with
    | none => exact absurd z q
    | some _ => rfl
  · show (oAt owner (way m h K)).isNone = true
    rw [k2]; rfl
/-- who sits where, of the first ones -/
structure Sat (m : Nat) (done : List Int) (owner : Array (Option Nat)) : Prop where
  size : owner.size = m + 1
  who : ∀ j k, j ≤ m → oAt owner j = some k → ∃ h, done[k]? = some h ∧ Led m (fun x => oAt owner x ≠ none) h j
  seat : ∀ k, k < done.length → ∃ j, j ≤ m ∧ oAt owner j = some k
  few : ∃ ps : List Nat, ps.length = done.length ∧ ∀ j, j ≤ m → oAt owner j ≠ none → j ∈ ps
theorem Sat.none (m : Nat) : Sat m [] (Array.replicate (m + 1) none) :=
  ⟨by simp, fun j k hj e => (by rw [oAt_init hj] at e; cases e), fun k hk => absurd hk (Nat.not_lt_zero k), ⟨[], rfl, fun j hj e => absurd (oAt_init hj) e⟩⟩
theorem Sat.more {m : Nat} (R : Rnd m) {done : List Int} {owner : Array (Option Nat)} (S : Sat m done owner) (hl : done.length ≤ m) (h : Int) :
    ∃ j, SetTable.layClean.free m owner (SetTable.turns m) (SetTable.bits h % (m + 1)) (SetTable.bits h) = some j ∧ Sat m (done ++ [h]) (owner.setIfInBounds j (some done.length)) := by
  obtain ⟨ps, hps, hin⟩ := S.few
  obtain ⟨j0, h0, n0⟩ := st_missing ps (m + 1) (by omega)
  obtain ⟨K, e1, e2, e3⟩ := free_gap R owner h (Nat.le_of_lt_succ h0) (Classical.not_not.mp fun z => n0 (hin j0 (Nat.le_of_lt_succ h0) z))
  have hw := way_in m h K
  refine ⟨_, e1, ?_⟩
  generalize ej : way m h K = j at hw e2 ⊢
  have at1 : oAt (owner.setIfInBounds j (some done.length)) j = some done.length := oAt_set_self _ (by rw [S.size]; omega)
  have at2 : ∀ x, x ≠ j → oAt (owner.setIfInBounds j (some done.length)) x = oAt owner x := fun x n => oAt_set_ne _ n
  have up : ∀ x, oAt owner x ≠ Option.none → oAt (owner.setIfInBounds j (some done.length)) x ≠ Option.none := fun x hx => by
    by_cases c : x = j
    · rw [c, at1]; exact fun z => nomatch z
    · rw [at2 x c]; exact hx
  refine ⟨by simp [S.size], fun x k hx e => ?_, fun k hk => ?_, ⟨j :: ps, by simp [hps], fun x hx e => ?_⟩⟩
  · by_cases c : x = j
    · rw [c, at1] at e
      cases e
      exact ⟨h, by simp, K, ej.trans c.symm, fun k' l => up _ (e3 k' l)⟩
    · rw [at2 x c] at e
      obtain ⟨h', a1, a2⟩ := S.who x k hx e
      exact ⟨h', by rw [List.getElem?_append_left (List.getElem?_eq_some_iff.mp a1).1]; exact a1, a2.mono up⟩
  · rw [List.length_append, List.length_singleton] at hk
    by_cases c : k = done.length
    · exact ⟨j, hw, by rw [c]; exact at1⟩
    · obtain ⟨x, hx, e⟩ := S.seat k (by omega)
      exact ⟨x, hx, by rw [at2 x fun z => by rw [z, e2] at e; cases e]; exact e⟩
  · by_cases c : x = j
    · rw [c]; exact List.mem_cons_self
    · rw [at2 x c] at e
      exact List.mem_cons_of_mem _ (hin x hx e)
theorem sat_all {m : Nat} (R : Rnd m) : ∀ (rest done : List Int) (owner : Array (Option Nat)), Sat m done owner → done.length + rest.length ≤ m →
    ∃ o2 n, rest.foldl (stepF m) (some (owner, done.length)) = some (o2, n) ∧ Sat m (done ++ rest) o2
  | [], done, owner, S, _ => ⟨owner, _, rfl, by rw [List.append_nil]; exact S⟩
  | h :: rest, done, owner, S, hl => by
    rw [List.length_cons] at hl
    obtain ⟨j, e, S2⟩ := S.more R (by omega) h
    obtain ⟨o2, n, f, S3⟩ := sat_all R rest (done ++ [h]) _ S2 (by simp; omega)
    rw [List.length_append, List.length_singleton] at f
    refine ⟨o2, n, by rw [List.foldl_cons, stepF_some e]; exact f, by simpa using S3⟩
theorem clean_sat {m : Nat} (R : Rnd m) {hs : Array Int} (hn : hs.size ≤ m) : ∃ owner, SetTable.layClean m hs = some owner ∧ Sat m hs.toList owner := by
  obtain ⟨owner, n, f, S⟩ := sat_all R hs.toList [] _ (Sat.none m) (by simpa using hn)
  refine ⟨owner, ?_, S⟩
  rw [layClean_eq]
  show Option.map _ (List.foldl (stepF m) (some (_, ([] : List Int).length)) _) = _
  rw [f]; rfl
theorem relaid_tab (t : SetTable) {hs : Array Int} {wanted M : Nat} (hw : SetTable.sizeAbove wanted - 1 = M) (R : Rnd M) (hn : hs.size ≤ M) :
    ∃ t' order, t.relaid hs wanted = some (t', order) ∧ order.toList.Perm (List.range hs.size) ∧ Tab t' (order.toList.map fun i => hs.getD i 0) ∧ t'.mask = M ∧ t'.led = t.led ∧ t'.plain = t.plain := by
  obtain ⟨owner, e, S⟩ := clean_sat R hn
  have asc := ris_live (fun j => owner.getD j none) (List.range (M + 1)) List.pairwise_lt_range
  have a1 : Ris ((liveOf M owner).map (·.1)) := asc.1
  have len : (liveOf M owner).length = hs.size := by
    obtain ⟨ps, p1, p2⟩ := S.few
    have le1 := nat_nodup_len ((liveOf M owner).map (·.1)) ps (by unfold Ris at a1; exact List.Pairwise.imp (fun h => Nat.ne_of_lt h) a1) fun x hx => by
      obtain ⟨⟨y, k⟩, hq, rfl⟩ := List.mem_map.mp hx
      obtain ⟨b1, b2⟩ := (mem_live S.size).1 hq
      exact p2 y b1 (by rw [b2]; exact fun z => nomatch z)
    have le2 := nat_nodup_len (List.range hs.size) ((liveOf M owner).map (·.2)) List.nodup_range fun k hk => by
      obtain ⟨j, b1, b2⟩ := S.seat k (by simpa using hk)
      exact List.mem_map.mpr ⟨(j, k), (mem_live S.size).2 ⟨b1, b2⟩, rfl⟩
    simp [p1] at le1 le2
    omega
  refine ⟨tabOf t M owner, ((liveOf M owner).map (·.2)).toArray, by rw [relaid_eq, hw, e]; rfl, ?_, ⟨a1, rfl, ?_, R, fun q hq => ?_⟩, rfl, rfl, rfl⟩
  · refine perm_range hs.size _ (by simpa using len) fun k hk => ?_
    obtain ⟨j, b1, b2⟩ := S.seat k (by simpa using hk)
    exact List.mem_map.mpr ⟨(j, k), (mem_live S.size).2 ⟨b1, b2⟩, rfl⟩
  · show ((liveOf M owner).map (·.1)).length = (((liveOf M owner).map (·.2)).map fun i => hs.getD i 0).length
    simp
  · have hq : q ∈ (((liveOf M owner).map (·.2)).map fun i => hs.getD i 0).zip ((liveOf M owner).map (·.1)) := hq
    rw [List.map_map, List.zip_map', List.mem_map] at hq
    obtain ⟨⟨j, k⟩, hp, rfl⟩ := hq
    obtain ⟨b1, b2⟩ := (mem_live S.size).1 hp
    obtain ⟨h, a2, a3⟩ := S.who j k b1 b2
    have eh : hs.getD k 0 = h := by
      rw [Array.getD_eq_getD_getElem?, ← Array.getElem?_toList, a2]; rfl
    show Led M _ (hs.getD k 0) j
    rw [eh]
    obtain ⟨K, k1, k2⟩ := a3
    refine ⟨K, k1, fun k' l => ?_⟩
    show way M h k' ∈ (liveOf M owner).map (·.1)
    cases z : oAt owner (way M h k') with
    | none => exact absurd z (k2 k' l)
    | some y => exact List.mem_map.mpr ⟨(way M h k', y), (mem_live S.size).2 ⟨way_in M h k', z⟩, rfl⟩
end Tg
end
section
/-! Sets of tuples of ints, up to some thousand of them: searching, adding. -/
namespace Tg
open PySem PySem.Spec PyProof.Rows L2
/-- the masks that come -/
def Mk (m : Nat) : Prop := m = 7 ∨ m = 31 ∨ m = 127 ∨ m = 511 ∨ m = 2047 ∨ m = 8191
theorem Mk.rnd {m : Nat} : Mk m → Rnd m
  | .inl e => rnd_pow (k := 2) (by rw [e])
  | .inr (.inl e) => rnd_pow (k := 4) (by rw [e])
  | .inr (.inr (.inl e)) => rnd_pow (k := 6) (by rw [e])
  | .inr (.inr (.inr (.inl e))) => rnd_pow (k := 8) (by rw [e])
  | .inr (.inr (.inr (.inr (.inl e)))) => rnd_pow (k := 10) (by rw [e])
  | .inr (.inr (.inr (.inr (.inr e)))) => rnd_pow (k := 12) (by rw [e])
theorem Mk.le {m : Nat} (h : Mk m) : m ≤ 8191 := by rcases h with e | e | e | e | e | e <;> omega
/-- the table that follows a full one -/
theorem Mk.grow {m n : Nat} (h : Mk m) (hn : n < 4095) (f : (n + 1) * 5 ≥ m * 3) (r : n * 5 < m * 3) :
    ∃ M, SetTable.sizeAbove (SetTable.grown (n + 1)) = M + 1 ∧ Mk M ∧ (n + 1) * 5 < M * 3 := by
  rcases h with rfl | rfl | rfl | rfl | rfl | rfl
  · obtain rfl : n = 4 := by omega
    exact ⟨31, by decide +kernel, .inr (.inl rfl), by decide⟩
  · obtain rfl : n = 18 := by omega
    exact ⟨127, by decide +kernel, .inr (.inr (.inl rfl)), by decide⟩
  · obtain rfl : n = 76 := by omega
    exact ⟨511, by decide +kernel, .inr (.inr (.inr (.inl rfl))), by decide⟩
  · obtain rfl : n = 306 := by omega
    exact ⟨2047, by decide +kernel, .inr (.inr (.inr (.inr (.inl rfl)))), by decide⟩
  · obtain rfl : n = 1228 := by omega
    exact ⟨8191, by decide +kernel, .inr (.inr (.inr (.inr (.inr rfl)))), by decide⟩
  · omega
/-- the set at a holds the tuples L, in its table's order -/
structure SetG (P : Program) (w : World) (h : Heap) (a : Addr) (L : List (Addr × List Int)) (es : Array (Int × Value)) (ep : Nat) (t : SetTable) : Prop where
  ob : ∃ o, h.get? a = some o ∧ o.ExactSet ∧ o.data = .set es ep t
  rows : es.toList = rowsOf P w L
  tab : Tab t (L.map fun p => thash P w p.2)
  nd : (L.map (·.2)).Nodup
  tup : ∀ p ∈ L, IsT P w h p.2 p.1
  plain : t.plain = true
  led : w.params.followText "set-order" = true ∨ t.led = true
  room : L.length * 5 < t.mask * 3
  few : L.length < 4096
  msk : Mk t.mask
section
variable {P : Program} {w : World} {A : Around} {E : Value → Shared → Prop} {s : Shared}
variable {a : Addr} {L : List (Addr × List Int)} {es : Array (Int × Value)} {ep : Nat} {t : SetTable}
theorem rows_size (h : es.toList = rowsOf P w L) : es.size = L.length := by
  rw [← Array.length_toList, h]
  exact List.length_map _
theorem tab_fits {hs : List Int} (T : Tab t hs) (n : es.size = hs.length) (le : hs.length ≤ t.mask) : t.fits es.size = true := by
  unfold SetTable.fits SetTable.fill
  rw [T.none, Bool.and_eq_true, beq_iff_eq, decide_eq_true_eq]
  have c := T.cnt
  rw [Array.length_toList] at c
  exact ⟨by omega, by show t.place.size + 0 ≤ t.mask; omega⟩
theorem SetG.fits (R : SetG P w s.heap a L es ep t) : t.fits es.size = true :=
  tab_fits R.tab (by rw [rows_size R.rows, List.length_map]) (by have := R.room; rw [List.length_map]; omega)
theorem SetG.item (R : SetG P w s.heap a L es ep t) {i : Nat} {p : Addr × List Int} (h : L[i]? = some p) : es[i]? = some (thash P w p.2, Value.ref p.1) := by
  rw [← Array.getElem?_toList, R.rows]
  unfold rowsOf
  rw [List.getElem?_map, h]; rfl
/-- the search, from the c-th step of the way on; K is the first gap -/
theorem seek (R : SetG P w s.heap a L es ep t) {x : Addr} {k : List Int} (hx : IsT P w s.heap k x) (hu : A.units < cLine) {K : Nat} (lim : K < 10 * SetTable.turns t.mask)
    (gap : way t.mask (thash P w k) K ∉ t.place.toList) (occ : ∀ c, c < K → way t.mask (thash P w k) c ∈ t.place.toList) {Q : SetFound → Shared → Prop}
    (yes : k ∈ L.map (·.2) → Q (.there none) s) (no : k ∉ L.map (·.2) → Q (.free (way t.mask (thash P w k) K) false) s) :
    ∀ (f c : Nat) (from' : Option SetTable.Probe), from'.getD (t.probeStart (thash P w k)) = pr t.mask (thash P w k) c → c ≤ K → K < c + f →
      (∀ (i : Nat) p, L[i]? = some p → p.2 = k → ∃ c', c ≤ c' ∧ c' < K ∧ t.place.toList[i]? = some (way t.mask (thash P w k) c')) →
      wpAny (model P w) A (setSearchFrom a (.ref x) (thash P w k) true f from') Q E s
  | 0, c, _, _, h1, h2, _ => absurd h2 (by omega)
  | f + 1, c, from', est, hc, hf, later => by
    obtain ⟨o, ho, _, hd⟩ := R.ob
    have hsh : ∀ (i : Nat) p, L[i]? = some p → (es[i]?.map (·.1)).getD 0 = thash P w p.2 := fun i p hp => by rw [R.item hp]; rfl
    have step := fun q => congrArg SetTable.Probe.j (pr_add t.mask (thash P w k) c q)
    have found := go_spec t R.tab.asc R.tab.none (fun i => (es[i]?.map (·.1)).getD 0) (thash P w k) (10 * SetTable.turns t.mask) (K - c) (pr t.mask (thash P w k) c) (pr_clean _ _ c) (by omega)
      (fun q hq => by rw [step]; exact occ (c + q) (by omega)) (by rw [step, show c + (K - c) = K by omega]; exact gap)
    rw [setSearchFrom_succ]
    refine wpAny_bind (wpAny_setState_of ho hd R.fits ?_)
    dsimp only
    refine wp_if_neg (by unfold SetTable.gaveWay; rw [R.tab.rnd.1]; decide) ?_
    try refine wpAny_bind (wpAny_pure ?_)
    -- an entry met later than c' = c + q with the key's hash is not passed
    have met : ∀ (i : Nat) p (c' : Nat), L[i]? = some p → p.2 = k → t.place.toList[i]? = some (way t.mask (thash P w k) c') → (es[i]?.map (·.1)).getD 0 = thash P w k := fun i p c' h1 h2 _ => by rw [hsh i p h1, h2]
    rcases found with ⟨q, i, hq, hi, _, before, go⟩ | ⟨before, go⟩
    · rw [step] at hi
      have e1 : t.probe (fun i => (es[i]?.map (·.1)).getD 0) (thash P w k) (from'.getD (t.probeStart (thash P w k))) = some (.candidate (way t.mask (thash P w k) (c + q)) i (pr t.mask (thash P w k) (c + (q + 1)))) := by
        rw [step, pr_add] at go
        rw [est]
        exact go
      rw [e1]
      dsimp only
      have hil : i < L.length := by
        have h1 := (List.getElem?_eq_some_iff.mp hi).1
        rw [R.tab.cnt, List.length_map] at h1
        exact h1
      obtain ⟨p, hp⟩ : ∃ p, L[i]? = some p := ⟨_, List.getElem?_eq_getElem hil⟩
      have hpm : p ∈ L := List.mem_of_getElem? hp
      have after : wpAny (model P w) A (searchRest a (.ref x) (thash P w k) true f es t (way t.mask (thash P w k) (c + q)) i (pr t.mask (thash P w k) (c + (q + 1)))) Q E s := by
        unfold searchRest
        rw [R.item hp]
        dsimp only
        refine wpAny_bind (wpAny_holding (wpAny_eqBool_tuple hu (R.tup p hpm) hx ?_))
        refine wpAny_bind (wpAny_setState_of ho hd R.fits ?_)
        dsimp only
        by_cases same : p.2 = k
        · refine wp_if_pos (by simp [same]) (wpAny_pure (yes (List.mem_map.mpr ⟨p, hpm, same⟩)))
        · refine wp_if_neg (by simp [same]) ?_
          try refine wpAny_bind (wpAny_pure ?_)
          have live := slot_live R.tab.asc hi
          rw [sameMem]
          dsimp only
          simp only [if_true, live, R.item hp]
          refine wpAny_bind (wpAny_isSame_ref_self (wpAny_bind (wpAny_pure ?_)))
          simp only [if_true]
          refine wp_if_neg (by simp [same]) ?_
          refine seek R hx hu lim gap occ yes no f (c + (q + 1)) _ rfl (by omega) (by omega) fun i0 p0 h0 k0 => ?_
          obtain ⟨c', a1, a2, a3⟩ := later i0 p0 h0 k0
          refine ⟨c', ?_, a2, a3⟩
          rcases Nat.lt_trichotomy c' (c + q) with z | z | z
          · exact absurd (met i0 p0 c' h0 k0 a3) (before (c' - c) i0 (by omega) (by rw [step, show c + (c' - c) = c' by omega]; exact a3))
          · have live2 := slot_live R.tab.asc (z ▸ a3)
            rw [live] at live2
            cases live2
            rw [hp] at h0
            cases h0
            exact absurd k0 same
          · omega
      by_cases hl : t.led = true
      · refine wp_if_neg (by simp [hl]) ?_
        try refine wpAny_bind (wpAny_pure ?_)
        exact after
      · refine wp_if_pos (by simp [hl]) ?_
        refine wpAny_bind (seen_tup hx (fun y hy => ?_) ?_)
        · obtain ⟨e, he, rfl⟩ := List.mem_map.mp hy
          have he2 : e ∈ es.toList := by
            have z : e ∈ es ∧ e.1 = thash P w k := by simpa using he
            simpa using z.1
          rw [R.rows] at he2
          obtain ⟨p2, hp2, rfl⟩ := List.mem_map.mp he2
          exact ⟨p2.2, p2.1, rfl, R.tup p2 hp2⟩
        · refine wp_if_neg (by decide) ?_
          try refine wpAny_bind (wpAny_pure ?_)
          exact after
    · have e1 : t.probe (fun i => (es[i]?.map (·.1)).getD 0) (thash P w k) (from'.getD (t.probeStart (thash P w k))) = some (.empty (way t.mask (thash P w k) K) none) := by
        rw [step, show c + (K - c) = K by omega] at go
        rw [est]
        exact go
      rw [e1]
      dsimp only
      refine wpAny_pure (no fun hm => ?_)
      obtain ⟨p0, m0, k0⟩ := List.mem_map.mp hm
      obtain ⟨i0, h0⟩ := List.getElem?_of_mem m0
      obtain ⟨c', a1, a2, a3⟩ := later i0 p0 h0 k0
      exact before (c' - c) i0 (by omega) (by rw [step, show c + (c' - c) = c' by omega]; exact a3) (met i0 p0 c' h0 k0 a3)
theorem seek0 (R : SetG P w s.heap a L es ep t) {x : Addr} {k : List Int} (hx : IsT P w s.heap k x) (hu : A.units < cLine) {Q : SetFound → Shared → Prop} (yes : k ∈ L.map (·.2) → Q (.there none) s)
    (no : ∀ K, k ∉ L.map (·.2) → way t.mask (thash P w k) K ∉ t.place.toList → (∀ c, c < K → way t.mask (thash P w k) c ∈ t.place.toList) → Q (.free (way t.mask (thash P w k) K) false) s) :
    wpAny (model P w) A (setSearch a (.ref x) (thash P w k) true) Q E s := by
  obtain ⟨K, lim, gap, occ⟩ := R.tab.gap (by have := R.room; rw [List.length_map]; omega) (thash P w k)
  have small : K < 100000 := by
    have := R.msk.le
    unfold SetTable.turns at lim
    omega
  unfold setSearch
  refine seek R hx hu lim gap occ yes (fun hn => no K hn gap occ) 100000 0 none rfl (Nat.zero_le _) (by omega) fun i p hp hk => ?_
  have hi : (L.map fun p => thash P w p.2)[i]? = some (thash P w k) := by rw [List.getElem?_map, hp, ← hk]; rfl
  obtain ⟨j, hj⟩ : ∃ j, t.place.toList[i]? = some j := ⟨_, List.getElem?_eq_getElem (by
    rw [R.tab.cnt]
    exact (List.getElem?_eq_some_iff.mp hi).1)⟩
  obtain ⟨c, hc, e⟩ := R.tab.ahead gap hi hj
  exact ⟨c, Nat.zero_le _, hc, by rw [hj, e]⟩
/-- the table laid anew, larger -/
theorem relay {o : Obj} (ho : s.heap.get? a = some o) (hex : o.ExactSet) (hd : o.data = .set es ep t) (rows : es.toList = rowsOf P w L) (T : Tab t (L.map fun p => thash P w p.2)) (full : L.length ≤ t.mask)
    (nd : (L.map (·.2)).Nodup) (tup : ∀ p ∈ L, IsT P w s.heap p.2 p.1) (pl : t.plain = true) (ld : w.params.followText "set-order" = true ∨ t.led = true) (few : L.length < 4096) {wanted M : Nat}
    (hw : SetTable.sizeAbove wanted = M + 1) (hM : Mk M) (hn : L.length * 5 < M * 3) {Q : Unit → Shared → Prop}
    (hQ : ∀ h' L' es' ep' t', Heap.SameBut a s.heap h' → SetG P w h' a L' es' ep' t' → L'.Perm L → Q () { s with heap := h' }) : wpAny (model P w) A (setRelay a wanted) Q E s := by
  have sz := rows_size rows
  have lM := hM.le
  obtain ⟨t', order, e, hp, T2, em, el, ep'⟩ := relaid_tab t (hs := es.map (·.1)) (wanted := wanted) (M := M) (by omega) hM.rnd (by rw [Array.size_map, sz]; omega)
  rw [Array.size_map, sz] at hp
  obtain ⟨L2, r1, r2, r3⟩ := order_rows L es order rows hp
  rw [← r3] at T2
  have s2 : (order.filterMap (es[·]?)).size = es.size := by rw [rows_size r1, r2.length_eq, sz]
  rw [setRelay_eq]
  refine wpAny_bind (wpAny_setState_of ho hd (tab_fits T (by rw [sz, List.length_map]) (by rw [List.length_map]; exact full)) ?_)
  dsimp only
  refine wp_if_neg (by rw [hw, sizeLine_eq]; omega) ?_
  try refine wpAny_bind (wpAny_pure ?_)
  rw [e]
  dsimp only
  refine wpAny_bind (wp_if_neg (by rw [s2]; simp) ?_)
  try refine wpAny_bind (wpAny_pure ?_)
  refine wpAny_pure ?_
  dsimp only
  refine wpAny_storeSet_of ho hd ?_ (by rw [s2, sz, sizeLine_eq]; omega)
  have but : Heap.SameBut a s.heap (s.heap.update a (Obj.putSet (order.filterMap (es[·]?)) t')) := Heap.SameBut.update ..
  exact hQ _ L2 (order.filterMap (es[·]?)) (ep + 1) t' but ⟨⟨_, store_at ho hd, ⟨hex.1, hex.2.1, hex.2.2⟩, rfl⟩, r1, T2, (r2.map (·.2)).nodup_iff.mpr nd, fun p m => isT_same (tup p (r2.mem_iff.mp m)) ho hd but, by rw [ep']; exact pl, by rw [el]; exact ld,
    by rw [r2.length_eq, em]; exact hn, by rw [r2.length_eq]; exact few, by rw [em]; exact hM⟩ r2
/-- a tuple joins -/
theorem join (R : SetG P w s.heap a L es ep t) {x : Addr} {k : List Int} (hx : IsT P w s.heap k x) (hu : A.units < cLine) (few : L.length < 4095) {Q : Bool → Shared → Prop}
    (hQ : ∀ b h' L' es' ep' t', Heap.SameBut a s.heap h' → SetG P w h' a L' es' ep' t' → (k ∈ L.map (·.2) → L' = L) → (k ∉ L.map (·.2) → L'.Perm ((x, k) :: L)) → Q b { s with heap := h' }) :
    wpAny (model P w) A (setAddHashed a (.ref x) (thash P w k)) Q E s := by
  obtain ⟨o, ho, hex, hd⟩ := R.ob
  have sz := rows_size R.rows
  have room := R.room
  unfold setAddHashed
  refine wpAny_holding ?_
  rw [show (100000 : Nat) = 99999 + 1 from rfl, setAddHashedIn_succ]
  refine wpAny_bind (wpAny_setState_of ho hd R.fits ?_)
  dsimp only
  refine wp_if_neg (by simp [byScan, Value.scannable]) ?_
  try refine wpAny_bind (wpAny_pure ?_)
  refine wpAny_bind (seek0 R hx hu (fun hm => ?_) fun K hm gap occ => ?_)
  · exact wpAny_pure (hQ false s.heap L es ep t (Heap.SameBut.refl a s.heap) R (fun _ => rfl) fun z => absurd hm z)
  · dsimp only
    refine wpAny_bind (wpAny_setState_of ho hd R.fits ?_)
    dsimp only
    obtain ⟨t1, p, ept⟩ : ∃ t1 p, t.put (way t.mask (thash P w k) K) = (t1, p) := ⟨_, _, rfl⟩
    obtain ⟨_, T1, e2, e3, e4, e5⟩ := R.tab.put gap occ ept
    rw [ept]
    dsimp only
    have pl1 : t1.plain = true := e4.trans R.plain
    first
      | (refine wpAny_bind ?_; refine wp_if_pos pl1 ?_; refine hashBy_tup hx ?_)
      | refine wp_if_pos pl1 (wpAny_bind (hashBy_tup hx ?_))
    simp only [if_true]
    have r1 : (SetTable.insertAt es p (thash P w k, Value.ref x)).toList = rowsOf P w (L.take p ++ (x, k) :: L.drop p) := by rw [SetTable.toList_insertAt, rows_put, R.rows]
    have pm := put_perm L p (x, k)
    have T2 : Tab t1 ((L.take p ++ (x, k) :: L.drop p).map fun p => thash P w p.2) := by
      rw [List.map_append, List.map_cons, List.map_take, List.map_drop]
      exact T1
    rw [List.length_map] at e5
    generalize SetTable.insertAt es p (thash P w k, Value.ref x) = es1 at r1 ⊢
    generalize L.take p ++ (x, k) :: L.drop p = L1 at pm T2 r1
    have ln : L1.length = L.length + 1 := pm.length_eq
    have sz1 := rows_size r1
    have nd1 : (L1.map (·.2)).Nodup := (pm.map (·.2)).nodup_iff.mpr (List.nodup_cons.mpr ⟨hm, R.nd⟩)
    refine wpAny_bind (wpAny_storeSet_of ho hd ?_ (by rw [sz1, ln, sizeLine_eq]; omega))
    have but : Heap.SameBut a s.heap (s.heap.update a (Obj.putSet es1 t1)) := Heap.SameBut.update ..
    have ho1 := store_at (es' := es1) (t' := t1) ho hd
    generalize s.heap.update a (Obj.putSet es1 t1) = h1 at but ho1 ⊢
    have tup1 : ∀ p ∈ L1, IsT P w h1 p.2 p.1 := fun p hp => (List.mem_cons.mp (pm.mem_iff.mp hp)).elim (fun e => by rw [e]; exact isT_same hx ho hd but) fun hp => isT_same (R.tup p hp) ho hd but
    have ld1 : w.params.followText "set-order" = true ∨ t1.led = true := by rw [e3]; exact R.led
    have tf : t1.tooFull = decide ((L.length + 1) * 5 ≥ t.mask * 3) := by unfold SetTable.tooFull; rw [e5, e2]
    by_cases hf : (L.length + 1) * 5 ≥ t.mask * 3
    · rw [tf]
      obtain ⟨M, g1, g2, g3⟩ := R.msk.grow few hf room
      first
        | (refine wpAny_bind ?_; refine wp_if_pos (by simp [hf]) ?_)
        | (refine wp_if_pos (by simp [hf]) ?_; refine wpAny_bind ?_)
      rw [sz]
      refine relay (s := { s with heap := h1 }) ho1 ⟨hex.1, hex.2.1, hex.2.2⟩ rfl r1 T2 (by rw [ln, e2]; omega) nd1 tup1 pl1 ld1 (by omega) g1 g2 (by rw [ln]; exact g3) fun h2 L2 es2 ep2 t2 but2 R2 pm2 => ?_
      exact wpAny_pure (hQ true h2 L2 es2 ep2 t2 (but.trans but2) R2 (fun z => absurd z hm) fun _ => pm2.trans pm)
    · rw [tf]
      first
        | refine wp_if_neg (by simp [hf]) ?_
        | (refine wpAny_bind ?_; refine wp_if_neg (by simp [hf]) ?_; refine wpAny_pure ?_)
      exact wpAny_pure (hQ true h1 L1 es1 (ep + 1) t1 but ⟨⟨_, ho1, ⟨hex.1, hex.2.1, hex.2.2⟩, rfl⟩, r1, T2, nd1, tup1, pl1, ld1, by rw [ln, e2]; omega, by omega, by rw [e2]; exact R.msk⟩ (fun z => absurd z hm) fun _ => pm)
end
end Tg
end
section
/-! Sets of tuples of ints, up to some thousand of them: set(a list), as the reading holds it. -/
namespace Tg
open PySem PySem.Spec PyProof.Rows L2
section
variable {P : Program} {w : World} {A : Around} {E : Value → Shared → Prop} {s : Shared}
theorem SetG.keep {h h' : Heap} {a : Addr} {L : List (Addr × List Int)} {es : Array (Int × Value)} {ep : Nat} {t : SetTable} (R : SetG P w h a L es ep t) (ha : ∀ o, h.get? a = some o → h'.get? a = some o) (ht : ∀ p ∈ L, IsT P w h' p.2 p.1) : SetG P w h' a L es ep t :=
  { R with ob := let ⟨o, ho, r⟩ := R.ob; ⟨o, ha o ho, r⟩, tup := ht }
theorem fresh_set {h : Heap} {a : Addr} (ho : h.get? a = some { cls := .type "set", dict := none, data := .set #[] 0 (.fresh 0 0 (!w.params.followText "set-order")) }) : SetG P w h a [] #[] 0 (.fresh 0 0 (!w.params.followText "set-order")) where
  ob := ⟨_, ho, ⟨rfl, rfl, rfl⟩, rfl⟩
  rows := rfl
  tab := ⟨List.Pairwise.nil, rfl, rfl, (Mk.rnd (.inl rfl) : Rnd 7), fun q hq => nomatch hq⟩
  nd := List.nodup_nil
  tup := fun p hp => nomatch hp
  plain := rfl
  led := by
    show w.params.followText "set-order" = true ∨ (!w.params.followText "set-order") = true
    cases w.params.followText "set-order" <;> simp
  room := (by decide : 0 * 5 < 7 * 3)
  few := (by decide : 0 < 4096)
  msk := .inl rfl
theorem nd_in {α : Type} [DecidableEq α] : ∀ {xs ys : List α}, xs.Nodup → (∀ c ∈ xs, c ∈ ys) → xs.length ≤ ys.length
  | [], _, _, _ => by simp
  | x :: xs, ys, n, h => by
    obtain ⟨n1, n2⟩ := List.nodup_cons.mp n
    have hx := h x List.mem_cons_self
    have ih := nd_in (ys := ys.erase x) n2 fun c hc => (List.mem_erase_of_ne (fun e : c = x => n1 (e ▸ hc))).mpr (h c (List.mem_cons_of_mem _ hc))
    have pos := List.length_pos_of_mem hx
    rw [List.length_erase_of_mem hx] at ih
    simp only [List.length_cons]
    omega
theorem fits_in {L : List (Addr × List Int)} {D : List (List Int)} (nd : (L.map (·.2)).Nodup) (h : ∀ p ∈ L, p.2 ∈ D) : L.length ≤ D.length := by
  have := nd_in nd (ys := D) fun c hc => by
    obtain ⟨p, hp, rfl⟩ := List.mem_map.mp hc
    exact h p hp
  simpa using this
/-- the loop of set.update: all tuples of a walk join -/
theorem update_loop {I : Addr} {fp wr : List Addr} {G : Array GenState → Array GenState → Prop} {n : Nat} {Pv : Nat → Value → Prop} {St : Nat → Shared → Prop} {R : Result → Shared → Prop}
    (W : WalksS P w A.in1 I fp wr G n Pv St) (S : Addr) (hSf : S ∉ fp) (ks : List (Addr × List Int)) (hn : n = ks.length) (D : List (List Int)) (hD : ∀ p ∈ ks, p.2 ∈ D) (few : D.length < 4095) (hval : ∀ i v, Pv i v → ∃ p, ks[i]? = some p ∧ v = .ref p.1)
    (h0 : Heap) (hk : ∀ p ∈ ks, IsT P w h0 p.2 p.1) (hS0 : h0.get? S = none) (hw0 : ∀ b ∈ wr, h0.get? b = none) (hu : A.in1.units < cLine) :
    ∀ (m i : Nat) (s : Shared), n = i + m → St i s → (∀ b o, h0.get? b = some o → s.heap.get? b = some o) → (∃ L es ep t, SetG P w s.heap S L es ep t ∧ Got ks i L) →
      (∀ s' L es ep t, Moved (S :: wr) G s s' → SetG P w s'.heap S L es ep t → Got ks n L → (∀ b o, h0.get? b = some o → s'.heap.get? b = some o) → R (.ok (.ret .none)) s') →
      codeAny (model P w) A (.builtin "set.update.loop" ⟨[.ref S, .ref I], []⟩) R s := by
  have out : S ∉ wr := fun h => hSf (W.sub _ h)
  have sub : ∀ b ∈ wr, b ∈ S :: wr := fun b hb => List.mem_cons_of_mem _ hb
  have old : ∀ {s s' : Shared}, Moved wr G s s' → (∀ b o, h0.get? b = some o → s.heap.get? b = some o) → ∀ b o, h0.get? b = some o → s'.heap.get? b = some o := fun hm kp b o e => hm.heap b o (fun hb => by rw [hw0 b hb] at e; cases e) (kp b o e)
  have stay : ∀ {s s' : Shared} {L es ep t i}, Moved wr G s s' → SetG P w s.heap S L es ep t → Got ks i L → (∀ b o, h0.get? b = some o → s'.heap.get? b = some o) → SetG P w s'.heap S L es ep t := fun hm hS g kp =>
    hS.keep (fun o e => hm.heap S o out e) fun p hp => isT_keep (hk p (List.mem_of_mem_take (g.sub p hp))) kp
  intro m
  induction m with
  | zero =>
    intro i s hi hst kp ⟨L, es, ep, t, hS, g⟩ hR
    obtain rfl : n = i := by omega
    refine codeAny_builtin F.entry_set_update_loop ?_
    rw [Around.under_plainId F.plain_set_update_loop _]
    show wpAny _ A.in1 (pyNext (.ref I) >>= _) _ _ s
    refine wpAny_bind (W.done s _ _ hst fun s' hm => ?_)
    exact wpAny_pure (hR s' L es ep t (hm.mono sub) (stay hm hS g (old hm kp)) g (old hm kp))
  | succ m ih =>
    intro i s hi hst kp ⟨L, es, ep, t, hS, g⟩ hR
    refine codeAny_builtin F.entry_set_update_loop ?_
    rw [Around.under_plainId F.plain_set_update_loop _]
    show wpAny _ A.in1 (pyNext (.ref I) >>= _) _ _ s
    refine wpAny_bind (W.item i s _ _ (by omega) hst fun v s' hP hst' hm => ?_)
    obtain ⟨p, hp, rfl⟩ := hval i v hP
    have kp' := old hm kp
    have hx : IsT P w s'.heap p.2 p.1 := isT_keep (hk p (List.mem_of_getElem? hp)) kp'
    show wpAny _ A.in1 (holding [Value.ref p.1] (setAdd S (.ref p.1)) >>= _) _ _ s'
    refine wpAny_bind (wpAny_holding ?_)
    unfold setAdd
    refine wpAny_holding (wpAny_bind (wpAny_pyHash_tuple hu hx ?_))
    have lt : i < ks.length := by omega
    have hS1 : SetG P w s'.heap S L es ep t := stay hm hS g kp'
    refine join (s := { s' with toks := s'.toks + (p.2.length + 1) }) hS1 hx hu (Nat.lt_of_le_of_lt (fits_in hS1.nd fun p hp => hD p (List.mem_of_mem_take (g.sub p hp))) few) fun b h' L' es' ep' t' but hS2 c1 c2 => ?_
    have g' : Got ks (i + 1) L' := by
      by_cases c : p.2 ∈ L.map (·.2)
      · rw [c1 c]; exact g.same hp c
      · exact g.more hp (c2 c)
    have kp2 : ∀ b o, h0.get? b = some o → h'.get? b = some o := fun b o e => (but.2 b (fun z => by rw [z, hS0] at e; cases e)).trans (kp' b o e)
    refine wpAny_pure ⟨plainId_quiet F.plain_set_update_loop _, ih (i + 1) _ (by omega) (W.frame _ s' _ _ hst' (Nat.le_add_right _ _) fun b hb o e => ?_) kp2 ⟨L', es', ep', t', hS2, g'⟩ fun s2 L2 es2 ep2 t2 hm2 hS3 g2 kp3 => ?_⟩
    · exact (but.2 b (fun h : b = S => hSf (h ▸ hb))).trans e
    · exact hR s2 L2 es2 ep2 t2 (Moved.trans W.gtrans ((hm.mono sub).then_heap (Nat.le_add_right _ _) fun b o hb e => (but.2 b (fun h : b = S => hb (by rw [h]; exact List.mem_cons_self))).trans e) hm2) hS3 g2 kp3
/-- set(xs) -/
theorem call_set {l : Addr} {items : Array Value} (ks : List (Addr × List Int)) {Q : Value → Shared → Prop} (hh : A.handled = none) (hl : s.heap.IsList l items) (hit : items.toList = ks.map fun p => Value.ref p.1)
    (hk : ∀ p ∈ ks, IsT P w s.heap p.2 p.1) (D : List (List Int)) (hD : ∀ p ∈ ks, p.2 ∈ D) (few : D.length < 4095) (hu : A.units + 3 < cLine)
    (h : ∀ (h' : Heap) (tk : Nat) L es ep t, SetG P w h' s.heap.objs.size L es ep t → Got ks ks.length L → (∀ b o, s.heap.get? b = some o → h'.get? b = some o) → Q (.ref s.heap.objs.size) { s with heap := h', toks := tk }) :
    wpAny (model P w) A (call (.type "set") [.ref l]) Q E s := by
  have cnt : items.size = ks.length := by rw [← Array.length_toList, hit, List.length_map]
  obtain ⟨c, tl, hmro⟩ := F.called_set.mro
  have hmade := F.called_set.made
  have hsub := F.called_set.sub
  have h1 := F.called_set.notType
  have h2 := F.called_set.canCreate
  have hct := F.typeCall_set_1 (.ref l)
  refine wpAny_call (codeAny_of_tree ?_)
  show wpAny _ _ (callAny (.type "set") _) _ _ _
  refine wpAny_pure ⟨Code.quiet_builtin _ (by decide +kernel), codeAny_builtin F.entry_type_call ?_⟩
  rw [Around.under_plain (weight_type_call_type "set" [.ref l] []) rfl]
  repeat (any_goals (first | assumption | wp_step))
  generalize eO : ({ cls := .type "set", dict := none, data := .set #[] 0 (.fresh 0 0 (!w.params.followText "set-order")) } : Obj) = oS
  refine codeAny_mono (code_set_led1 (.ref l) (E := E) (Q₁ := fun obj s₁ => obj = .ref s.heap.objs.size ∧ s₁ = { s with heap := s.heap.push oS }) ⟨rfl, by rw [← eO]⟩) fun r s₁ hr => ?_
  cases r with
  | error e => exact hr
  | ok fl =>
    cases fl with
    | ret obj =>
      obtain ⟨rfl, rfl⟩ := hr
      have hS : (s.heap.push oS).get? s.heap.objs.size = some oS := by rw [← eO]; exact Heap.get?_push_size _ rfl
      have hT : Shared.TypeIs { s with heap := s.heap.push oS } (.ref s.heap.objs.size) "set" := ⟨_, hS, by rw [← eO]⟩
      have hli := F.called_set.init.lookup
      have hbi := F.called_set.init.bind (.ref s.heap.objs.size)
      repeat (any_goals (first | assumption | wp_step))
      refine codeAny_mono (codeAny_call_builtin (R := wants (fun r s₂ => r = .none ∧ ∃ h' tk L es ep t, s₂ = { s with heap := h', toks := tk } ∧ SetG P w h' s.heap.objs.size L es ep t ∧ Got ks ks.length L ∧
          (∀ b o, s.heap.get? b = some o → h'.get? b = some o)) E) F.called_set.init.plain F.entry_set_init (check_set_init_1 hT ?_)) fun r₂ s₂ hr₂ => ?_
      · have hl1 : (s.heap.push oS).IsList l items := by
          obtain ⟨ol, hol, hcl, r⟩ := hl
          exact ⟨ol, Heap.get?_push_of_some _ hol, hcl, r⟩
        obtain ⟨ol, hol', hcl, nl, hdl⟩ := id hl1
        obtain ⟨ocls, odict, odata, oslots⟩ := ol
        simp only at hcl hdl
        subst hcl; subst hdl
        have q1 := F.sub_list_set
        have q2 := F.sub_list_frozenset
        have q3 : (Value.type "list" == Value.type "dict") = false := by decide
        subst eO
        unfold Builtin.«set.__init__» noKeywords Builtin.Frozenset.updateFrom
        generalize hPI : pyIter = PI
        wp_walk
        subst hPI
        refine wpAny_pyIter_list (s := { s with heap := s.heap.push _ }) hl1 ?_
        refine wpAny_bind (wpAny_runValue ?_)
        have hz1 : ∀ o, (s.heap.push o).objs.size = s.heap.objs.size + 1 := fun o => Heap.size_push ..
        have hlS : l < s.heap.objs.size := by
          obtain ⟨o, ho, _⟩ := hl
          exact Heap.lt_size ho
        have hh3 : A.in1.in1.in1.handled = none := by simp [hh]
        have neI : ∀ o, l ≠ (s.heap.push o).objs.size := fun o => by rw [hz1]; exact Nat.ne_of_lt (Nat.lt_succ_of_lt hlS)
        have absent : ∀ b, s.heap.objs.size ≤ b → s.heap.get? b = none := fun b hb => by
          cases q : s.heap.get? b with
          | none => rfl
          | some o => exact absurd (Heap.lt_size q) (Nat.not_lt.mpr hb)
        refine update_loop ((Walks.list hh3 _ l (neI _) items).toS) s.heap.objs.size (by simp only [List.mem_cons, List.not_mem_nil, or_false, not_or, hz1]; exact ⟨Nat.ne_of_lt (Nat.lt_succ_self _), Nat.ne_of_gt hlS⟩) ks cnt D hD few (fun i v hv => ?_) s.heap hk (absent _ (Nat.le_refl _))
          (fun b hb => absent b (by rw [List.mem_singleton.mp hb, hz1]; exact Nat.le_succ _)) hu items.size 0 _ (by omega) ⟨⟨_, Heap.get?_push_size _ rfl, rfl, rfl⟩, hl1.push _⟩ (fun b o e => Heap.get?_push_of_some _ (Heap.get?_push_of_some _ e))
          ⟨[], #[], 0, _, fresh_set (Heap.get?_push_of_some _ hS), Got.zero ks⟩ fun s' L es ep t hm hS' g' kp => ?_
        · have q : items.toList[i]? = some v := by rw [Array.getElem?_toList]; exact hv
          rw [hit, List.getElem?_map] at q
          obtain ⟨p, hp, e⟩ := Option.map_eq_some_iff.mp q
          exact ⟨p, hp, e.symm⟩
        · obtain ⟨h', g2, d', tk', os'⟩ := s'
          have eg : g2 = s.gens := hm.gens
          have ed : d' = s.drawn := hm.drawn
          have eo : os' = s.os := hm.os
          subst eg; subst ed; subst eo
          refine wpAny_pure ?_
          show wpAny _ _ (ret Value.none) _ _ _
          exact wpAny_pure ⟨rfl, h', tk', L, es, ep, t, rfl, hS', cnt ▸ g', kp⟩
      · cases r₂ with
        | error e => exact hr₂
        | ok fl₂ =>
          cases fl₂ with
          | ret r =>
            obtain ⟨rfl, h', tk, L, es, ep, t, rfl, hS', g', hk'⟩ := hr₂
            repeat (any_goals (first | assumption | wp_step))
            exact h _ _ _ _ _ _ hS' g' hk'
          | _ => exact hr₂.elim
    | _ => exact hr.elim
end
/-! ### as the reading holds them -/
/-- the set at a, without the tuples themselves -/
def SetG0 (P : Program) (w : World) (h : Heap) (a : Addr) (L : List (Addr × List Int)) : Prop :=
  ∃ (es : Array (Int × Value)) (ep : Nat) (t : SetTable), (∃ o, h.get? a = some o ∧ o.ExactSet ∧ o.data = .set es ep t) ∧ es.toList = rowsOf P w L ∧ Tab t (L.map fun p => thash P w p.2) ∧ (L.map (·.2)).Nodup ∧ t.plain = true ∧
    (w.params.followText "set-order" = true ∨ t.led = true) ∧ L.length * 5 < t.mask * 3 ∧ L.length < 4096 ∧ Mk t.mask
def SetGO (P : Program) (w : World) (a : Addr) (L : List (Addr × List Int)) : HO := .ext fun h => SetG0 P w h a L
theorem SetG.g0 {P : Program} {w : World} {h : Heap} {a : Addr} {L : List (Addr × List Int)} {es : Array (Int × Value)} {ep : Nat} {t : SetTable} (R : SetG P w h a L es ep t) : SetG0 P w h a L :=
  ⟨es, ep, t, R.ob, R.rows, R.tab, R.nd, R.plain, R.led, R.room, R.few, R.msk⟩
theorem SetG0.whole {P : Program} {w : World} {h : Heap} {a : Addr} {L : List (Addr × List Int)} (R : SetG0 P w h a L) (ht : ∀ p ∈ L, IsT P w h p.2 p.1) : ∃ es ep t, SetG P w h a L es ep t := by
  obtain ⟨es, ep, t, h1, h2, h3, h4, h5, h6, h7, h8, h9⟩ := R
  exact ⟨es, ep, t, h1, h2, h3, h4, ht, h5, h6, h7, h8, h9⟩
theorem setGO_new {P : Program} {w : World} {H : Hp} {h : Heap} {a : Addr} {L : List (Addr × List Int)} (R : SetG0 P w h a L) : ObjOk P w H h a (SetGO P w a L) := by
  have ⟨es, ep, t, ⟨o, ho, r⟩, q⟩ := R
  refine ⟨R, ⟨o, ho⟩, fun h1 h2 p k => ?_⟩
  have ⟨es', ep', t', ⟨o', ho', r'⟩, q'⟩ := (show SetG0 P w h1 a L from p)
  exact ⟨es', ep', t', ⟨o', k o' ho', r'⟩, q'⟩
/-- set(xs), xs a list of tuples of ints -/
def rSetOfG (K : PySem.W.Frag) (P : Program) (w : World) : List V → Hp → VK → Prop := fun xs H Q => ∃ (l : Addr) (ks : List (Addr × List Int)), xs = [V.ref l] ∧ SqL K H l (ks.map fun p => V.ref p.1) ∧ (∀ p ∈ ks, SqT K H p.1 (p.2.map V.int)) ∧ (∃ D : List (List Int), (∀ p ∈ ks, p.2 ∈ D) ∧ D.length < 4095) ∧
  ∀ a L, H a = none → (∀ p ∈ L, p ∈ ks) → (∀ p ∈ ks, p.2 ∈ L.map (·.2)) → Q (.ref a) (upd H a (SetGO P w a L))
theorem cr_setOfG {X : Cx} (hc : X.calm = true) (hu : X.A.units + 64 < cLine) : CallR X (.type "set") (rSetOfG X.K X.prog X.w) := by
  intro pins s σ H xs us Q I r ⟨l, ks, e, hl, hk, ⟨D, hD, hf⟩, q⟩
  subst e
  rw [Vals.ref1 r]
  obtain ⟨its, rv, pl, _⟩ := I.list hl
  refine call_set (P := X.prog) (w := X.w) ks (I.ok.hd hc) pl.isList (by simpa using refs_of_vals rv) (fun p hp => I.isT (hk p hp)) D hD hf (by omega) fun h' tk L es ep t R g kp => ?_
  exact ⟨.ref s.heap.objs.size, upd H s.heap.objs.size (SetGO X.prog X.w s.heap.objs.size L), I.laid (t' := tk) kp (Nat.le_refl _) (setGO_new R.g0), rfl, q _ L (I.hok.fresh (Nat.le_refl _)) (fun p hp => List.mem_of_mem_take (g.sub p hp)) fun p hp => g.all p (by rw [List.take_length]; exact hp)⟩
end Tg
end
section
/-! Rows of tuples of ints: sets of them, sorted. -/
namespace Dn
open PySem PySem.Spec PyProof.Rows L2
open PySem.W (AllAlike Sortable dataLe alike EachIs)
/-! ### data -/
def intsOf : List Dt → Option (List Int)
  | [] => some []
  | .int i :: r => (intsOf r).map (i :: ·)
  | _ => none
def tupI : Dt → Option (List Int)
  | .tup xs => intsOf xs
  | _ => none
def tupIs : List Dt → Option (List (List Int))
  | [] => some []
  | d :: r => (tupI d).bind fun x => (tupIs r).map (x :: ·)
def rowD (r : List Int) : Dt := .tup (r.map .int)
theorem intsOf_rp {k : Kp} {D : Hp} : ∀ {ds : List Dt} {vs : List V} {is : List Int}, RpL k D vs ds → intsOf ds = some is → vs = is.map V.int
  | [], _, _, .nil, e => by cases e; rfl
  | d :: r, _, is, .cons h t, e => by
    cases d <;> simp only [intsOf] at e <;> try (cases e; done)
    rename_i i
    cases q : intsOf r with
    | none => rw [q] at e; cases e
    | some ys =>
      rw [q] at e
      cases e
      cases h
      rw [intsOf_rp t q, List.map_cons]
theorem tupI_rp {k : Kp} {D : Hp} {d : Dt} {v : V} {r : List Int} (h : Rp k D v d) (e : tupI d = some r) : ∃ a, v = .ref a ∧ D a = some (.tup (r.map V.int)) := by
  cases d <;> simp only [tupI] at e <;> try (cases e; done)
  cases h with
  | tup s t => exact ⟨_, rfl, by rw [← intsOf_rp t e]; exact s⟩
theorem tupIs_rp {k : Kp} {D : Hp} : ∀ {ds : List Dt} {vs : List V} {rs : List (List Int)}, RpL k D vs ds → tupIs ds = some rs →
    ∃ L : List (Addr × List Int), vs = L.map (fun p => V.ref p.1) ∧ L.map (·.2) = rs ∧ ∀ p ∈ L, D p.1 = some (.tup (p.2.map V.int))
  | [], _, _, .nil, e => by cases e; exact ⟨[], rfl, rfl, fun _ h => nomatch h⟩
  | d :: r, _, rs, .cons h t, e => by
    unfold tupIs at e
    cases q1 : tupI d with
    | none => rw [q1] at e; cases e
    | some x =>
      cases q2 : tupIs r with
      | none => rw [q1, q2] at e; cases e
      | some ys =>
        rw [q1, q2] at e
        cases e
        obtain ⟨a, rfl, ha⟩ := tupI_rp h q1
        obtain ⟨L, rfl, e2, e3⟩ := tupIs_rp t q2
        exact ⟨(a, x) :: L, rfl, by simp [e2], fun p hp => (List.mem_cons.mp hp).elim (fun e => e ▸ ha) (e3 p)⟩
theorem rowD_rp {k : Kp} {D : Hp} {a : Addr} {r : List Int} (h : D a = some (.tup (r.map V.int))) : Rp k D (.ref a) (rowD r) := .tup h (rpl_ints r)
theorem rowsD_rp {k : Kp} {D : Hp} : ∀ {L : List (Addr × List Int)}, (∀ p ∈ L, D p.1 = some (.tup (p.2.map V.int))) → RpL k D (L.map fun p => V.ref p.1) ((L.map (·.2)).map rowD)
  | [], _ => .nil
  | p :: L, h => .cons (rowD_rp (h p List.mem_cons_self)) (rowsD_rp fun q hq => h q (List.mem_cons_of_mem _ hq))
/-! ### the order -/
def leR (a b : List Int) : Bool := decide (a ≤ b)
def srtR (rs : List (List Int)) : List (List Int) := rs.mergeSort leR
theorem leR_trans (a b c : List Int) : leR a b = true → leR b c = true → leR a c = true := by
  simp only [leR, decide_eq_true_eq]
  exact fun h g => List.le_trans h g
theorem leR_total (a b : List Int) : (leR a b || leR b a) = true := by
  simp only [leR, Bool.or_eq_true, decide_eq_true_eq]
  exact List.le_total a b
theorem leR_anti {a b : List Int} (h : leR a b = true) (g : leR b a = true) : a = b := by
  simp only [leR, decide_eq_true_eq] at h g
  exact List.le_antisymm h g
theorem srtR_perm {xs ys : List (List Int)} (h : xs.Perm ys) : srtR xs = srtR ys :=
  List.Perm.eq_of_pairwise (le := fun a b => leR a b = true) (fun a b _ _ h g => leR_anti h g) (List.pairwise_mergeSort leR_trans leR_total xs) (List.pairwise_mergeSort leR_trans leR_total ys) (((List.mergeSort_perm xs leR).trans h).trans (List.mergeSort_perm ys leR).symm)
/-- unlike rows, rising -/
def sortRows (rs : List (List Int)) : List (List Int) := srtR (Sk.addAll [] rs)
theorem dataLe_tups {β : Type} (x : β → List Int) : dataLe false (fun b => .tuple ((x b).map .int)) = fun p q => leR (x p) (x q) := PySem.W.dataLe_rows x
/-! ### sorted(a set of tuples) -/
section
variable {X : Cx} {k : Kp}
def rSortTT (K : PySem.W.Frag) (P : Program) (w : World) : List V → Hp → VK → Prop := fun vs H Q => ∃ (a : Addr) (L : List (Addr × List Int)), vs = [V.ref a] ∧ H a = some (Tg.SetGO P w a L) ∧ (∀ p ∈ L, SqT K H p.1 (p.2.map V.int)) ∧ ((∀ p ∈ L, p.2 ≠ []) ∨ ∀ p ∈ L, p.2 = []) ∧
  ∀ (L' : List (Addr × List Int)) (p : Addr), (L.map (·.2)).Nodup → L'.Perm L → L'.map (·.2) = srtR (L.map (·.2)) → H p = none → Q (.ref p) (upd H p (.lst (L'.map fun q => V.ref q.1)))
theorem each_mk {α : Type} {R : Value → α → Prop} (f : α → Value) (h : ∀ b, R (f b) b) : ∀ bs : List α, EachIs R (bs.map f) bs
  | [] => .nil
  | b :: bs => .cons (h b) (each_mk f h bs)
theorem each_mem {α : Type} {R S : Value → α → Prop} : ∀ {vs : List Value} {bs : List α}, EachIs R vs bs → (∀ v b, b ∈ bs → R v b → S v b) → EachIs S vs bs
  | _, _, .nil, _ => .nil
  | _, _, .cons h t, f => .cons (f _ _ List.mem_cons_self h) (each_mem t fun v b hb => f v b (List.mem_cons_of_mem _ hb))
theorem refs_back {vs : List Value} {L : List (Addr × List Int)} (e : EachIs (fun v (b : Addr × List Int) => v = Value.ref b.1) vs L) : vs = L.map fun b => Value.ref b.1 := by
  induction e with
  | nil => rfl
  | cons h _ ih => rw [h, ih, List.map_cons]
theorem toPys_ints : ∀ r : List Int, toPys (r.map .int) = some (r.map .int)
  | [] => rfl
  | i :: r => by simp [toPys, toPy, toPys_ints r]
theorem toPy_row (r : List Int) : toPy (rowD r) = some (.tuple (r.map .int)) := by simp [rowD, toPy, toPys_ints r]
theorem readsAll_ints {h : Heap} : ∀ {r : List Int} {vs : List Value} {as : List Addr}, ReadsAll h vs (r.map PyData.int) as → as = []
  | [], _, _, x => by cases x; rfl
  | i :: r, _, _, x => by
    cases x with
    | cons a b =>
      cases a
      rw [readsAll_ints b]; rfl
theorem reads_ints {h : Heap} {r : List Int} {v : Value} {as : List Addr} (x : Reads h v (.tuple (r.map PyData.int)) as) : as = [] := by
  cases x with
  | tuple h1 h2 h3 h4 => exact readsAll_ints h4
theorem alike_ints : ∀ a b : List Int, PySem.W.alikeAll (a.map .int) (b.map .int) = true
  | [], b => by simp [PySem.W.alikeAll]
  | _ :: _, [] => by simp [PySem.W.alikeAll]
  | x :: a, y :: b => by simp [PySem.W.alikeAll, alike, alike_ints a b]
theorem depth_ints : ∀ r : List Int, PyData.depthAll (r.map .int) = 0
  | [] => rfl
  | i :: r => by simp [PyData.depthAll, PyData.depth, depth_ints r]
theorem one_nil {L : List (Addr × List Int)} (nd : (L.map (·.2)).Nodup) (h : ∀ p ∈ L, p.2 = []) : L.length ≤ 1 := by
  match L, nd, h with
  | [], _, _ => simp
  | [_], _, _ => simp
  | a :: b :: r, nd, h =>
    have h1 := h a (by simp)
    have h2 := h b (by simp)
    simp [h1, h2] at nd
theorem cr_sortTT {lv : Nat} (hc : X.calm = true) (hr : Room lv X.A) : CallR X (.builtin "sorted") (rSortTT X.K X.prog X.w) := by
  intro pins s σ H vs us Q I r h
  obtain ⟨a, L, rfl, ha, hk, hne0, q⟩ := h
  have R0 : Tg.SetG0 X.prog X.w s.heap a L := (I.hok a _ ha).1
  obtain ⟨es, ep, t, R⟩ := R0.whole fun p hp => I.isT (hk p hp)
  rw [Vals.ref1 r]
  obtain ⟨o, ho, hex, hd⟩ := R.ob
  have hne : (∀ p ∈ L, p.2 ≠ []) ∨ L.length ≤ 1 := hne0.imp id fun z => one_nil R.nd z
  have hfew := R.few
  have hsz := Tg.rows_size R.rows
  refine Calls.call_function_entry PyProof.Rows.kind_sorted PyProof.Rows.plain_sorted PyProof.Rows.entry_sorted (PyProof.Rows.args_sorted1 _) ?_
  unfold Builtin.«sorted»
  refine wpAny_bind (m := checkCount "sorted" 1 1 _) (wpAny_pure ?_)
  refine wpAny_bind (collect_set (A := X.A.in1) (I.ok.hd hc) ⟨o, ho, hex.1, hd⟩ R.fits (by unfold scanBound; omega) R.tab.asc R.led fun s1 vs k1 hz g1 o1 pm => ?_)
  have hes : es.toList.map (·.2) = L.map fun q => Value.ref q.1 := by
    rw [R.rows]
    unfold rowsOf
    rw [List.map_map]
    rfl
  rw [hes] at pm
  -- the values are rows of L, in some order
  obtain ⟨L1, e1, pL⟩ : ∃ L1 : List (Addr × List Int), vs = L1.map (fun q => Value.ref q.1) ∧ L1.Perm L := by
    have key : ∀ (vs : List Value) (L : List (Addr × List Int)), vs.Perm (L.map fun q => Value.ref q.1) → ∃ L1 : List (Addr × List Int), vs = L1.map (fun q => Value.ref q.1) ∧ L1.Perm L := by
      intro vs
      induction vs with
      | nil => intro L p; have := p.length_eq; simp at this; exact ⟨[], rfl, by rw [List.eq_nil_of_length_eq_zero this.symm]⟩
      | cons v vs ih =>
        intro L p
        obtain ⟨b, hb, rfl⟩ := List.mem_map.mp (p.mem_iff.mp List.mem_cons_self)
        obtain ⟨l1, l2, rfl⟩ := List.append_of_mem hb
        have p2 : vs.Perm ((l1 ++ l2).map fun q => Value.ref q.1) := by
          rw [List.map_append, List.map_cons] at p
          rw [List.map_append]
          exact (List.perm_cons _).mp (p.trans List.perm_middle)
        obtain ⟨L1, e, pe⟩ := ih _ p2
        exact ⟨b :: L1, by rw [List.map_cons, e], (pe.cons b).trans List.perm_middle.symm⟩
    exact key vs L pm
  have hvl : vs.length = L.length := by rw [pm.length_eq, List.length_map]
  refine wpAny_bind (wpAny_newList ?_ (by rw [sizeLine_eq]; omega))
  have hoL : (s1.heap.push (seqObj "list" vs.toArray 0)).get? s1.heap.objs.size = some (seqObj "list" vs.toArray 0) := Heap.get?_push_size _ rfl
  have up1 : ∀ b u, s.heap.get? b = some u → (s1.heap.push (seqObj "list" vs.toArray 0)).get? b = some u := fun b u e => Heap.get?_push_of_some _ (k1 b u e)
  have hn : H s1.heap.objs.size = none := I.hok.fresh hz
  -- the end, whatever sorts
  have fin : ∀ (L' : List (Addr × List Int)) (out : List Value), L'.Perm L → L'.map (·.2) = srtR (L.map (·.2)) → out = L'.map (fun q => Value.ref q.1) →
      wpAny (model X.prog X.w) (X.A.in1) (ret (Value.ref s1.heap.objs.size)) (fun f s' => ∃ v, f = .done (.ret v) ∧ EP X pins σ Q v s') X.xe { s1 with heap := sortedHeap (s1.heap.push (seqObj "list" vs.toArray 0)) s1.heap.objs.size vs (List.toArray out) } := by
    intro L' out p1 p2 p3
    obtain ⟨c, hc'⟩ := PyProof.Rows.sortedHeap_at (vs := vs) (out := List.toArray out) hoL
    have hlen : (L'.map fun q => V.ref q.1).length ≤ sizeLine := by rw [List.length_map, p1.length_eq, sizeLine_eq]; omega
    have up : ∀ b u, s.heap.get? b = some u → (sortedHeap (s1.heap.push (seqObj "list" vs.toArray 0)) s1.heap.objs.size vs (List.toArray out)).get? b = some u := fun b u e => by
      have q := k1 b u e
      have hlt := Heap.lt_size q
      rw [PyProof.Rows.sortedHeap_old (Nat.ne_of_lt hlt) (by rw [size_push']; exact Nat.lt_succ_of_lt hlt)]
      exact Heap.get?_push_of_some _ q
    refine wpAny_pure ⟨_, rfl, ?_⟩
    obtain ⟨h1, gg1, dd1, tt1, oo1⟩ := s1
    dsimp only at g1 o1
    subst g1 o1
    have hv : Vals (L'.map fun q => V.ref q.1) out := by rw [p3]; exact vals_of_refs L'
    have J : L2.Inv X pins σ (upd H h1.objs.size (.lst (L'.map fun q => V.ref q.1))) { s with heap := sortedHeap (h1.push (seqObj "list" vs.toArray 0)) h1.objs.size vs (List.toArray out), drawn := dd1, toks := tt1 } :=
      I.call (ch := []) (Un.laid up hz hn) (I.hok.laid up hz ⟨hlen, out, c, hv, hc'⟩) I.bare (fun _ z => nomatch z)
    exact ⟨.ref _, _, J, rfl, q L' _ R.nd p1 p2 hn⟩
  rcases Nat.lt_or_ge L.length 2 with hs | hs
  · refine wpAny_bind (wpAny_holding (wpAny_call_entry slot_list_sort ⟨_, hoL, rfl⟩ entry_list_sort (SK.plain_sort (r := fun _ => 0) hoL (by rw [pm.length_eq, List.length_map]; omega) (fun h2 => absurd h2 (by rw [pm.length_eq, List.length_map]; omega)) fun ps out h1 h2 h3 => ⟨_, rfl, ?_⟩) (args_list_sort _)))
    obtain ⟨p1, _⟩ := TS.out_rank (r := fun _ => 0) h1 h2 h3
    have : out.toList = L1.map fun q => Value.ref q.1 := by
      rw [← e1]
      have hl : vs.length ≤ 1 := by rw [pm.length_eq, List.length_map]; omega
      match vs, hl, p1 with
      | [], _, p1 => simpa using p1.length_eq
      | [v], _, p1 => exact List.perm_singleton.mp p1
      | _ :: _ :: _, hl, _ => simp at hl
    have e2 := fin L1 out.toList pL (by
      rw [srtR_perm (pL.symm.map (·.2))]
      have hl : L1.length ≤ 1 := by rw [pL.length_eq]; omega
      match L1, hl with
      | [], _ => simp [srtR]
      | [p], _ => simp [srtR]
      | _ :: _ :: _, hl => simp at hl) this
    simpa using e2
  · have hne' : ∀ p ∈ L, p.2 ≠ [] := hne.resolve_right (by omega)
    have ek : EachIs (fun v (b : Addr × List Int) => v = Value.ref b.1) vs L1 := by rw [e1]; exact each_mk (R := fun v (b : Addr × List Int) => v = Value.ref b.1) (fun b => Value.ref b.1) (fun _ => rfl) L1
    have rd : EachIs (fun v (b : Addr × List Int) => ∃ as, Reads (s1.heap.push (seqObj "list" vs.toArray 0)) v (.tuple (b.2.map .int)) as ∧ s1.heap.objs.size ∉ as) vs L1 := each_mem ek fun v b hb e => by
      subst e
      have hb' : b ∈ L := pL.mem_iff.mp hb
      obtain ⟨as, r1⟩ := Dp.reads I (.tuple (b.2.map .int)) (.ref b.1) (.ref b.1) (.tup (hk b hb') (dps_of (k := ⟨X.K, fun _ => none, none, 0, [], [], none, none⟩) (D := H) (b.2.map .int) (rpl_ints b.2) (toPys_ints b.2))) rfl
      cases reads_ints r1
      exact ⟨[], PyProof.Rows.Reads.keeps up1 r1, fun z => nomatch z⟩
    refine wpAny_bind (wpAny_holding (PySem.W.list_sort_data (enc := fun b : Addr × List Int => PyData.tuple (b.2.map .int)) (R := fun v b => v = Value.ref b.1) hoL ek rd (PySem.W.AllAlike.of fun b b' => ?_) (.inl fun d hd => ?_) (by rw [← ek.length, sizeLine_eq]; omega) (fun b _ => ?_) fun out hol he => ?_))
    · simp only [alike]
      exact alike_ints b.2 b'.2
    · obtain ⟨b, hb, rfl⟩ := List.mem_map.mp hd
      have := hne' b (pL.mem_iff.mp hb)
      match hb2 : b.2, this with
      | x :: r, _ => exact ⟨_, _, by rw [List.map_cons]⟩
    · have h3 := hr.un
      show X.A.units + 1 + 1 + (PyData.tuple (b.2.map .int)).depth < cLine
      have : (PyData.tuple (b.2.map .int)).depth ≤ 1 := by
        simp only [PyData.depth]
        have : PyData.depthAll (b.2.map .int) = 0 := depth_ints b.2
        omega
      omega
    · rw [dataLe_tups (fun b : Addr × List Int => b.2)] at he
      refine fin (L1.mergeSort fun p q => leR p.2 q.2) out ((List.mergeSort_perm _ _).trans pL) ?_ (refs_back he)
      rw [srtR_perm (pL.symm.map (·.2))]
      unfold srtR
      exact List.map_mergeSort (f := Prod.snd) fun _ _ _ _ => rfl
end
/-! ### sorted(set(a list of rows)) -/
def okRows (rs : List (List Int)) : Bool := decide ((Sk.addAll [] rs).length < 4095) && (rs.all (fun r => !r.isEmpty) || rs.all (fun r => r.isEmpty)) && decide (rs.length ≤ sizeLine)
def oSrtT : List Dt → Option Ow
  | [.lst ds] => (tupIs ds).bind fun rs => if okRows rs then some (.lst ((sortRows rs).map rowD)) else none
  | _ => none
theorem addK_nd {κ : Type} [DecidableEq κ] {k : κ} {ks : List κ} (h : ks.Nodup) : (Sk.addK k ks).Nodup := by
  unfold Sk.addK
  split
  · exact h
  · rename_i n; exact List.nodup_cons.mpr ⟨n, h⟩
theorem addAll_nd {κ : Type} [DecidableEq κ] : ∀ {r ks : List κ}, ks.Nodup → (Sk.addAll ks r).Nodup
  | [], _, h => h
  | k :: r, ks, h => addAll_nd (r := r) (addK_nd (k := k) h)
theorem rows_same {L : List (Addr × List Int)} {rs : List (List Int)} (nd : (L.map (·.2)).Nodup) (h : ∀ r, r ∈ L.map (·.2) ↔ r ∈ rs) : srtR (L.map (·.2)) = sortRows rs :=
  srtR_perm ((List.perm_ext_iff_of_nodup nd (addAll_nd List.nodup_nil)).mpr fun r => by rw [h, Sk.mem_addAll]; simp)
theorem rows_ne {L : List (Addr × List Int)} {rs : List (List Int)} (h : ∀ r, r ∈ L.map (·.2) → r ∈ rs) (ok : okRows rs = true) : (∀ p ∈ L, p.2 ≠ []) ∨ ∀ p ∈ L, p.2 = [] := by
  unfold okRows at ok
  simp only [Bool.and_eq_true, Bool.or_eq_true, List.all_eq_true, decide_eq_true_eq, Bool.not_eq_true'] at ok
  rcases ok.1.2 with z | z
  · exact .inl fun p hp e => by
      have := z p.2 (h _ (List.mem_map.mpr ⟨p, hp, rfl⟩))
      rw [e] at this
      cases this
  · exact .inr fun p hp => List.isEmpty_iff.mp (z p.2 (h _ (List.mem_map.mpr ⟨p, hp, rfl⟩)))
theorem new_rows {k : Kp} {C : Ct} {D' H' : Hp} {p : Addr} {L' : List (Addr × List Int)} {rs : List (List Int)} (hk : ∀ q ∈ L', D' q.1 = some (.tup (q.2.map V.int))) (e : L'.map (·.2) = rs) (hp : H' p = some (.lst (L'.map fun q => V.ref q.1))) (eC : C.k = k) : OwnAt C D' H' p (.lst (rs.map rowD)) [p] :=
  ⟨rfl, _, hp, by rw [eC, ← e]; exact rowsD_rp hk⟩
theorem df_srtST {F : Fc} {p p2 pos pos2 : PySem.Pos} {e : Expr} {ga : GA} (hc : F.calm = true) (hg : F.sc.names.lookup ("sorted" : Str) = some .globalImplicit) (hm : F.mg "sorted" = none) (hg2 : F.sc.names.lookup ("set" : Str) = some .globalImplicit) (hm2 : F.mg "set" = none) (h : DL F [e] ga)
    (hs : ∀ env, starEach [e] env = (false, eval e env) :: starEach [] env := by intro _; rfl) (hs2 : ∀ env, starEach [Expr.Call (.Name "set" p2) [e] [] pos2] env = (false, eval (.Call (.Name "set" p2) [e] [] pos2) env) :: starEach [] env := by intro _; rfl) :
    DF F (.Call (.Name "sorted" p) [.Call (.Name "set" p2) [e] [] pos2] [] pos) (gArgsF oSrtT ga) := by
  obtain ⟨t, a1, a2⟩ := h.ex
  refine ⟨⟨fun W => tCB (rSortTT F.K F.P F.w) (tCons (tCB (Tg.rSetOfG F.K F.P F.w) (t W)) tNil), fun X W O T => ?_, fun W => den_argsF (a2 W) (r := fun xs H1 Q => Tg.rSetOfG F.K F.P F.w xs H1 fun v H2 => rSortTT F.K F.P F.w [v] H2 Q) fun k hK hc D H xs as z u r ez Q q => ?_⟩⟩
  · rw [← O.prog, ← O.w, ← O.K]
    have h1 : PE X (.Call (.Name "set" p2) [e] [] pos2) (tCB (Tg.rSetOfG X.K X.prog X.w) (t W)) := pe_callTy (Tg.cr_setOfG (O.calm hc) (by have := O.room.un; omega)) (by show X.env.scope.names.lookup _ = _; rw [O.sc]; exact hg2) (by rw [O.mg]; exact hm2) (by kernel_rfl) (a1 X W O T) (by decide +kernel) (by decide +kernel) (hs _)
    exact pe_callB (cr_sortTT (O.calm hc) (O.full hc)) (by show X.env.scope.names.lookup _ = _; rw [O.sc]; exact hg) (by rw [O.mg]; exact hm) (by kernel_rfl) (pa_cons h1 pa_nil (hs2 _)) (by decide +kernel) (by decide +kernel) (hs2 _)
  · unfold oSrtT at ez
    split at ez
    · rename_i ds
      cases er : tupIs ds with
      | none => rw [er] at ez; cases ez
      | some rs =>
        rw [er] at ez
        simp only [Option.bind] at ez
        split at ez
        · rename_i ok
          cases ez
          obtain ⟨v, rfl, rv⟩ := one_rp r
          cases rv with
          | @lst l vs _ hl rl =>
            obtain ⟨L0, rfl, e0, k0⟩ := tupIs_rp rl er
            have hn : ∃ E : List (List Int), (∀ p ∈ L0, p.2 ∈ E) ∧ E.length < 4095 := by
              refine ⟨Sk.addAll [] rs, fun p hp => ?_, ?_⟩
              · rw [Sk.mem_addAll]
                exact .inr (by rw [← e0]; exact List.mem_map_of_mem hp)
              · unfold okRows at ok
                simp only [Bool.and_eq_true, decide_eq_true_eq] at ok
                exact ok.1.1
            refine ⟨l, L0, rfl, SqL.of (u _ _ hl), fun p hp => tupS u (k0 p hp), hn, fun a L ha h1 h2 => ?_⟩
            have sub : ∀ q ∈ L, SqT F.K H q.1 (q.2.map V.int) := fun q hq => tupS u (k0 q (h1 q hq))
            have x1 : Ex D H D (upd H a (Tg.SetGO F.P F.w a L)) := Ex.hid u ha
            have mm : ∀ r, r ∈ L.map (·.2) ↔ r ∈ rs := fun r => by
              rw [← e0]
              refine ⟨fun z => ?_, fun z => ?_⟩
              · obtain ⟨p, hp, e⟩ := List.mem_map.mp z
                exact List.mem_map.mpr ⟨p, h1 p hp, e⟩
              · obtain ⟨p, hp, e⟩ := List.mem_map.mp z
                exact e ▸ h2 p hp
            refine ⟨a, L, rfl, upd_same, fun q hq => sqT_sub x1.kp (sub q hq), rows_ne (fun r => (mm r).mp) ok, fun L' p nd p1 p2 hp => ?_⟩
            have x2 : Ex D (upd H a (Tg.SetGO F.P F.w a L)) D (upd (upd H a (Tg.SetGO F.P F.w a L)) p (.lst (L'.map fun q => V.ref q.1))) := Ex.hid x1.up hp
            refine q p D _ [p] (x1.trans x2) (fun C eC => new_rows (fun q hq => k0 q (h1 q (p1.mem_iff.mp hq))) (p2.trans (rows_same nd mm)) upd_same eC) (by simp) fun b hb => ?_
            rw [List.mem_singleton.mp hb]
            exact ⟨none_of x1.kp hp, none_of x1.up hp⟩
        · cases ez
    · cases ez
/-! ### sorted({a row for ..}) -/
end Dn
end
section
/-! Dicts with ints, texts or tuples of these for keys: made by a comprehension, asked. -/
namespace Dn
open PySem PySem.Spec PyProof.Rows L2
/-! ### keys -/
def keyI : Dt → Option Key
  | .int i => some (.inl i)
  | .str x => some (.inr x)
  | _ => none
def keysI : List Dt → Option (List Key)
  | [] => some []
  | d :: r => (keyI d).bind fun k => (keysI r).map (k :: ·)
def keyT : Dt → Option (List Key)
  | .tup xs => keysI xs
  | _ => none
section
variable {k : Kp} {D : Hp}
theorem keyI_rp {d : Dt} {v : V} {x : Key} (r : Rp k D v d) (e : keyI d = some x) : v = kV x := by
  cases d <;> simp only [keyI] at e <;> try (cases e; done)
  · cases e; cases r; rfl
  · cases e; cases r; rfl
theorem keysI_rp : ∀ {ds : List Dt} {vs : List V} {xs : List Key}, RpL k D vs ds → keysI ds = some xs → vs = xs.map kV
  | [], _, _, .nil, e => by cases e; rfl
  | d :: r, _, xs, .cons h t, e => by
    unfold keysI at e
    cases q1 : keyI d with
    | none => rw [q1] at e; cases e
    | some x =>
      cases q2 : keysI r with
      | none => rw [q1, q2] at e; cases e
      | some ys =>
        rw [q1, q2] at e
        cases e
        rw [keyI_rp h q1, keysI_rp t q2, List.map_cons]
theorem keyT_rp {d : Dt} {v : V} {xs : List Key} (r : Rp k D v d) (e : keyT d = some xs) : ∃ b, v = .ref b ∧ D b = some (.tup (xs.map kV)) := by
  cases d <;> simp only [keyT] at e <;> try (cases e; done)
  cases r with
  | tup h t => exact ⟨_, rfl, by rw [← keysI_rp t e]; exact h⟩
/-! ### pairs -/
variable {κ : Type} [DecidableEq κ]
def Rk (k : Kp) (D : Hp) (ks : List (κ × V)) (kvs : List (κ × Dt)) : Prop := ks.map (·.1) = kvs.map (·.1) ∧ RpL k D (ks.map (·.2)) (kvs.map (·.2))
def getG (kvs : List (κ × Dt)) (x : κ) : Option Dt := (kvs.find? fun kv => decide (kv.1 = x)).map (·.2)
def putG (kvs : List (κ × Dt)) (x : κ) (v : Dt) : List (κ × Dt) := if (kvs.any fun kv => decide (kv.1 = x)) = true then kvs.map (fun kv => if kv.1 = x then (kv.1, v) else kv) else kvs ++ [(x, v)]
theorem Rk.uncons {p : κ × V} {ks : List (κ × V)} {kvs : List (κ × Dt)} (r : Rk k D (p :: ks) kvs) : ∃ d kvs', kvs = (p.1, d) :: kvs' ∧ Rp k D p.2 d ∧ Rk k D ks kvs' := by
  obtain ⟨e, r⟩ := r
  match kvs, e, r with
  | [], e, _ => cases e
  | q :: kvs', e, .cons h t =>
    rw [List.map_cons, List.map_cons, List.cons.injEq] at e
    exact ⟨q.2, kvs', by rw [e.1], h, e.2, t⟩
theorem Rk.nil_of {kvs : List (κ × Dt)} (r : Rk k D ([] : List (κ × V)) kvs) : kvs = [] := by
  have := r.1
  simp at this
  exact this
theorem Rk.cons {p : κ × V} {d : Dt} {ks : List (κ × V)} {kvs : List (κ × Dt)} (h : Rp k D p.2 d) (r : Rk k D ks kvs) : Rk k D (p :: ks) ((p.1, d) :: kvs) := ⟨by simp [r.1], .cons h r.2⟩
theorem Rk.length {ks : List (κ × V)} {kvs : List (κ × Dt)} (r : Rk k D ks kvs) : ks.length = kvs.length := by have := congrArg List.length r.1; simpa using this
theorem Rk.any {ks : List (κ × V)} {kvs : List (κ × Dt)} (r : Rk k D ks kvs) (x : κ) : (ks.any fun kv => decide (kv.1 = x)) = kvs.any fun kv => decide (kv.1 = x) := by
  have e : ∀ {α : Type} (l : List (κ × α)), (l.any fun kv => decide (kv.1 = x)) = (l.map (·.1)).any fun y => decide (y = x) := fun l => by rw [List.any_map]; rfl
  rw [e, e, r.1]
theorem Rk.get {ks : List (κ × V)} : ∀ {kvs : List (κ × Dt)}, Rk k D ks kvs → ∀ x, (valV ks x = none ∧ getG kvs x = none) ∨ ∃ v d, valV ks x = some v ∧ getG kvs x = some d ∧ Rp k D v d := by
  induction ks with
  | nil => intro kvs r x; rw [r.nil_of]; exact .inl ⟨rfl, rfl⟩
  | cons p ks ih =>
    intro kvs r x
    obtain ⟨d, kvs', rfl, h, r'⟩ := r.uncons
    by_cases z : p.1 = x
    · exact .inr ⟨p.2, d, by simp [valV, List.find?_cons, z], by simp [getG, List.find?_cons, z], h⟩
    · rcases ih r' x with ⟨a, b⟩ | ⟨v, d', a, b, c⟩
      · exact .inl ⟨by simpa [valV, List.find?_cons, z] using a, by simpa [getG, List.find?_cons, z] using b⟩
      · exact .inr ⟨v, d', by simpa [valV, List.find?_cons, z] using a, by simpa [getG, List.find?_cons, z] using b, c⟩
theorem Rk.put {ks : List (κ × V)} {kvs : List (κ × Dt)} (r : Rk k D ks kvs) (x : κ) {v : V} {d : Dt} (h : Rp k D v d) : Rk k D (putK ks x v) (putG kvs x d) := by
  unfold putK putG
  rw [r.any x]
  by_cases z : (kvs.any fun kv => decide (kv.1 = x)) = true
  · rw [if_pos z, if_pos z]
    clear z
    induction ks generalizing kvs with
    | nil => rw [r.nil_of]; exact ⟨rfl, .nil⟩
    | cons p ks ih =>
      obtain ⟨d', kvs', rfl, h', r'⟩ := r.uncons
      rw [List.map_cons, List.map_cons]
      by_cases z : p.1 = x
      · rw [if_pos z, if_pos z]
        exact Rk.cons (p := (p.1, v)) h (ih r')
      · rw [if_neg z, if_neg z]
        exact Rk.cons h' (ih r')
  · rw [if_neg z, if_neg z]
    exact ⟨by simp [r.1], by simpa using r.2.append (.cons h .nil)⟩
theorem Rk.mono {D' : Hp} (s : Sub D D') {ks : List (κ × V)} {kvs : List (κ × Dt)} (r : Rk k D ks kvs) : Rk k D' ks kvs := ⟨r.1, r.2.mono s⟩
end
/-! ### {k: v for ..}, k a tuple -/
section
variable {F : Fc}
/-! ### in a dict, a tuple -/
def orO (f g : Dt → Dt → Option Dt) : Dt → Dt → Option Dt := fun a b => match f a b with
  | some r => some r
  | none => g a b
theorem CmK.or {op : CmpOp} {f g : Dt → Dt → Option Dt} (h1 : CmK F op f) (h2 : CmK F op g) : CmK F op (orO f g) := by
  obtain ⟨r1, a1, b1⟩ := h1.ex
  obtain ⟨r2, a2, b2⟩ := h2.ex
  refine ⟨⟨fun x y H Q => r1 x y H Q ∨ r2 x y H Q, fun X O => (a1 X O).or (a2 X O), fun k hK hc D H x y a b z u ra rb e Q q => ?_⟩⟩
  unfold orO at e
  cases ef : f a b with
  | some r => rw [ef] at e; cases e; exact .inl (b1 k hK hc D H x y a b _ u ra rb ef Q q)
  | none => rw [ef] at e; exact .inr (b2 k hK hc D H x y a b _ u ra rb e Q q)
end
end Dn
end
section
/-! Comprehensions given to names of data, reversed lists. -/
namespace Dn
open PySem L2
section
variable {F : Fc}
/-- an owned thing given to a name, kept as data -/
theorem ds_thaw {st : Stmt} {g : GF} (i : Nat) (h : DS F st (sSetF i g)) : DS F st (sSet i (gFrz g)) := by
  obtain ⟨t, a, b⟩ := h.ex
  refine ⟨⟨t, a, fun W C env w σ D H Dn K S p => b W C env w σ D H Dn K S ?_⟩⟩
  unfold sSet gFrz at p
  unfold sSetF
  cases e : g env w with
  | bad => rw [e] at p; exact p
  | exc c fs w1 => rw [e] at p; exact p
  | ok o w1 =>
    rw [e] at p
    simp only [Out.bind] at p
    show PostS C W (if i < env.length then .nx (env.set i (.own o)) w1 else .bad) Dn
    by_cases hi : i < env.length
    · rw [if_pos hi] at p ⊢
      intro σ' D' H' S'
      obtain ⟨D2, S2, _⟩ := S'.frzI i
      have e2 : frzE i (env.set i (.own o)) = env.set i (.dat o.dt) := by
        unfold frzE
        rw [List.getElem?_set_self hi]
        cases o <;> simp [Ow.dt, List.set_set]
      rw [e2] at S2
      exact p σ' D2 H' S2
    · rw [if_neg hi] at p
      exact p.elim
end
end Dn
end
section
/-! Dicts of the module; f-strings; split; lists unpacked. -/
namespace Dn
open PySem L2
/-! ### a dict of the module: text keys, text values -/
def lkS (kvs : List (Str × Str)) (z : Str) : Option Str := (kvs.find? fun p => decide (p.1 = z)).map (·.2)
structure KdF (B : Bs) (x : Str) (kvs : List (Str × Str)) : Prop where
  ex : ∃ (d : Addr) (es : Array DictEntry) (n : Nat), B.mg x = some (.ref d) ∧ KDict B.K B.w d es n ∧ es.size = kvs.length ∧ (∀ (i : Nat) (p : Str × Str), kvs[i]? = some p → ∃ en t, es[i]? = some en ∧ en.key = .str p.1 t) ∧
    (∀ z, lkS kvs z = none → PySem.W.nsIn B.K d z = some none) ∧ ∀ z v, lkS kvs z = some v → ∃ u, PySem.W.nsIn B.K d z = some (some u) ∧ RelV (.str v) u
theorem kd_of {B : Bs} {x : Str} {a : Addr} {kvs : List (Str × Str)} (hm : B.mg x = some (.ref a)) (hd : He.dicW B.K a = some (He.keysIn B.w.params (kvs.map (·.1)))) (hv : He.valsB B.K a (kvs.map fun p => (p.1, He.Dv.str p.2)) = true) : KdF B x kvs := by
  obtain ⟨es, n, D⟩ := He.dicW_ok hd
  have hk : es.toList.map He.keyOf = He.keysIn B.w.params (kvs.map (·.1)) := by
    unfold He.dicW at hd
    rw [D.at_] at hd
    have h1 : (match decide (("dict" : String) = "dict") && ((#[] : Array (Option Value)).isEmpty && !(a == sysModules)) with
      | true => some (es.toList.map He.keyOf)
      | false => none) = some (He.keysIn B.w.params (kvs.map (·.1))) := hd
    rw [D.low] at h1
    exact Option.some.inj h1
  have hlen : es.toList.length = kvs.length := by
    have := congrArg List.length hk
    simpa [He.keysIn] using this
  have at_ : ∀ (i : Nat) (p : Str × Str), kvs[i]? = some p → ∃ en t, es.toList[i]? = some en ∧ en.key = .str p.1 t := fun i p hp => by
    have h1 : (es.toList.map He.keyOf)[i]? = (He.keysIn B.w.params (kvs.map (·.1)))[i]? := by rw [hk]
    unfold He.keysIn at h1
    rw [List.getElem?_map, List.getElem?_map, List.getElem?_map, hp] at h1
    cases e : es.toList[i]? with
    | none => rw [e] at h1; cases h1
    | some en =>
      rw [e] at h1
      have h2 : He.keyOf en = some (p.1, PyData.keyHash B.w.params p.1) := Option.some.inj h1
      unfold He.keyOf at h2
      split at h2
      · rename_i y t q
        have := Option.some.inj h2
        obtain ⟨h3, h4⟩ := Prod.mk.inj this
        exact ⟨en, t, rfl, by rw [q, h3]⟩
      · cases h2
  have key : ∀ en ∈ es.toList, ∃ p ∈ kvs, ∃ t, en.key = .str p.1 t := fun en hen => by
    obtain ⟨i, hi, e⟩ := List.mem_iff_getElem.mp hen
    have hi2 : i < kvs.length := by rw [← hlen]; exact hi
    obtain ⟨en', t, h1, h2⟩ := at_ i kvs[i] (List.getElem?_eq_getElem hi2)
    rw [List.getElem?_eq_getElem hi, e] at h1
    cases h1
    exact ⟨kvs[i], List.getElem_mem hi2, t, h2⟩
  refine ⟨a, es, n, hm, D, by simpa using hlen, fun i p hp => ?_, fun z hz => ?_, fun z v hz => ?_⟩
  · obtain ⟨en, t, h1, h2⟩ := at_ i p hp
    exact ⟨en, t, by rw [← Array.getElem?_toList]; exact h1, h2⟩
  · unfold PySem.W.nsIn
    rw [D.at_]
    have h1 : es.toList.find? (·.key.isStr z) = none := List.find?_eq_none.mpr fun en hen => by
      obtain ⟨p, hp, t, e⟩ := key en hen
      rw [e]
      unfold lkS at hz
      rw [Option.map_eq_none_iff, List.find?_eq_none] at hz
      have := hz p hp
      simp only [Value.isStr, beq_iff_eq]
      simpa using this
    have h2 : es.toList.any (·.refKey) = false := List.any_eq_false.mpr fun en hen => by
      obtain ⟨p, hp, t, e⟩ := key en hen
      unfold DictEntry.refKey
      rw [e]
      simp
    simp only [h1, h2]
    rfl
  · unfold lkS at hz
    cases e : kvs.find? fun p => decide (p.1 = z) with
    | none => rw [e] at hz; cases hz
    | some p =>
      rw [e] at hz
      cases hz
      have hp := List.mem_of_find?_eq_some e
      have hq : p.1 = z := by simpa using List.find?_some e
      obtain ⟨u, h1, h2⟩ := He.valsB_ok hv (q := (p.1, .str p.2)) (List.mem_map.mpr ⟨p, hp, rfl⟩)
      exact ⟨u, by rw [← hq]; exact h1, h2⟩
def oNotInKd (kvs : List (Str × Str)) : Dt → Option Dt
  | .str z => some (.bl (!(lkS kvs z).isSome))
  | _ => none
section
variable {F : Fc}
theorem den_bind1 {W : WX} {ta : TE} {ga : GE} {f : Dt → Option Dt} {r : V → Hp → VK → Prop} (ha : DenE F W ta ga) (hr : ∀ k : Kp, k.K = F.K → k.cls = F.cls → ∀ D H x a z, Sub D H → Rp k D x a → f a = some z → ∀ Q : VK, (∀ v D' H', Ex D H D' H' → Rp k D' v z → Q v H') → r x H Q) :
    DenE F W (fun σ H Q => ta σ H fun x H1 => r x H1 Q) (gBind1 f ga) := by
  intro C env w σ D H Q K S p
  refine ha C env w σ D H _ K S ?_
  unfold gBind1 at p
  cases ea : ga env w with
  | bad => rw [ea] at p; exact p.elim
  | exc c fs w1 => rw [ea] at p; exact p
  | ok a w1 =>
    rw [ea] at p
    intro x D1 H1 S1 s1 ra
    simp only [Out.bind] at p
    cases ef : f a with
    | none => rw [ef] at p; exact p.elim
    | some z =>
      rw [ef] at p
      exact hr C.k K.K K.cls D1 H1 x a z S1.up ra ef Q fun v D' H' x' rv => p v D' H' (S1.ex x') (s1.trans x'.sub) rv
theorem nsIs_some {kvs : List (Str × Str)} {K : PySem.W.Frag} {d : Addr} (h1 : ∀ z, lkS kvs z = none → PySem.W.nsIn K d z = some none) (h2 : ∀ z v, lkS kvs z = some v → ∃ u, PySem.W.nsIn K d z = some (some u) ∧ RelV (.str v) u) (z : Str) :
    ∃ r, PySem.W.nsIn K d z = some r ∧ r.isSome = (lkS kvs z).isSome := by
  cases e : lkS kvs z with
  | none => exact ⟨none, h1 z e, rfl⟩
  | some v =>
    obtain ⟨u, h, _⟩ := h2 z v e
    exact ⟨some u, h, rfl⟩
theorem dt_notInKd {a : Expr} {x : Str} {p pos : PySem.Pos} {g : GE} {kvs : List (Str × Str)} (Kd : KdF F.toBs x kvs) (hg : F.sc.names.lookup x = some .globalImplicit) (h : DE F a g) (hd : (x == ("__debug__" : Str)) = false := by decide +kernel) (hm : behindInMarks .NotIn (.Name x p) = false := by rfl) :
    DT F (.Compare a [.NotIn] [.Name x p] pos) (gTst (gBind1 (oNotInKd kvs) g)) := by
  obtain ⟨ta, a1, a2⟩ := h.ex
  obtain ⟨d, es, n, e1, D, hs, hk, h1, h2⟩ := Kd.ex
  refine ⟨⟨fun W => tTest (tOp (fun x y H Q => ∃ (z : Str) (r : Option Value), x = .str z ∧ y = .ref d ∧ PySem.W.nsIn F.K d z = some r ∧ Q (.bl (!r.isSome)) H) (ta W) (tC (.ref d))), fun X W O T => ?_, fun W => den_tst ?_⟩⟩
  · rw [← O.K]
    exact pt_cmpR (op_notIn_kd (by rw [O.K, O.w]; exact D)) (a1 X W O T) (pe_glob (u := .ref d) (by show X.env.scope.names.lookup x = _; rw [O.sc]; exact hg) (by rw [O.mg]; exact e1) rfl hd) hm
  · refine den_bind1 (r := fun x H1 Q => ∃ (z : Str) (r : Option Value), x = .str z ∧ V.ref d = .ref d ∧ PySem.W.nsIn F.K d z = some r ∧ Q (.bl (!r.isSome)) H1) (a2 W) fun k _ _ D' H' x a z u ra e Q q => ?_
    cases ra with
    | str y =>
      obtain ⟨r, e2, e3⟩ := nsIs_some h1 h2 y
      refine ⟨y, r, rfl, rfl, e2, ?_⟩
      cases e
      rw [e3]
      exact q _ D' H' (Ex.refl u) (.bl _)
    | _ => cases e
/-! for x in d -/
end
end Dn
end
section
/-! f-strings; split; lists unpacked. -/
namespace Dn
open PySem L2
end Dn
end
section
/-! Exceptions: classes with an own __init__, raised. -/
namespace Dn
open PySem L2 PySem.Spec PyProof.Rows ClX
theorem mc_eval {U m : Str} {p1 p2 pos : Pos} {args : List Expr} {env : PySem.Env} (hf : methodCallForm args.length (backTo pos (starEach args env)) (backToKw pos (keywordEach [] env)) = true) (hl : (p2.endLine == pos.line) = true) :
    eval (.Call (.Attribute (.Name U p1) m p2) args [] pos) env = (do
      let ov ← eval (.Name U p1) env
      standAt p2.atName
      let (f, first) ← holding [ov] (getMethod ov m (plainOf (.Name U p1) env))
      callWith pos f first (backTo pos (starEach args env)) (backToKw pos (keywordEach [] env))) := by
  have e : eval (.Call (.Attribute (.Name U p1) m p2) args [] pos) env = (do
      let ov ← eval (.Name U p1) env
      standAt p2.atName
      methodCall (.Name U p1) m p2 pos env ov args.length (backTo pos (starEach args env)) (backToKw pos (keywordEach [] env))) := by rfl
  rw [e]
  simp only [mcall_line hf hl]
/-! ### what the written part says of such a class -/
def oexB (K : PySem.W.Frag) (C : Addr) : Bool := (match K.lookup C with
    | some ⟨.type t, _, .cls cd, sl⟩ => (match cd.mro, sl.toList with
      | .ref C' :: bm, [_, _, _, _, some (.builtin n), _] => decide (t = "type") && (C' == C && (n == "ValueError.__new__" && (cd.hasDict && (!cd.hasDel && PySem.HandSPX.refsVE bm))))
      | _, _ => false)
    | _ => false) && (decide (PySem.W.findIn K (.ref C) "__setattr__" = some (some (.builtin "object.__setattr__"))) && (decide (PySem.W.subIn K (.ref C) (.type "BaseException") = some true) && (decide (PySem.W.typeIn K (.ref C) = some (.type "type")) && PySem.W.keepIn K (.ref C))))
theorem oexB_ok {K : PySem.W.Frag} {C : Addr} (h : oexB K C = true) : OexC K C := by
  unfold oexB at h
  rw [Bool.and_eq_true, Bool.and_eq_true, Bool.and_eq_true, Bool.and_eq_true] at h
  obtain ⟨q, h2, h3, h4, h5⟩ := h
  refine ⟨?_, of_decide_eq_true h2, of_decide_eq_true h3, of_decide_eq_true h4, h5⟩
  split at q
  · rename_i t dd cd sl ho
    split at q
    · rename_i C' bm k0 k1 k2 k3 n k5 hm hs
      simp only [Bool.and_eq_true, beq_iff_eq, Bool.not_eq_true', decide_eq_true_eq] at q
      obtain ⟨rfl, rfl, rfl, hd, hdel, hv⟩ := q
      obtain ⟨nm, bs, mro, ns, qn, hd', sn, sub, ab, col, del⟩ := cd
      dsimp only at hm hdel hd
      subst hm hdel hd
      have hsl : sl = #[k0, k1, k2, k3, some (.builtin "ValueError.__new__"), k5] := by
        obtain ⟨l⟩ := sl
        simp only at hs
        rw [hs]
      subst hsl
      exact ⟨nm, qn, ns, bs, bm, sn, sub, ab, col, dd, k0, k1, k2, k3, k5, ho, hv⟩
    · cases q
  · cases q
/-! ### U.m(e, ..), U a class of the module, m a def of it -/
structure ClsFn (K : PySem.W.Frag) (C : Addr) (m : Str) (f : Addr) : Prop where
  rd : CRead K C (.type "type")
  at_ : PySem.W.findCls K (.ref C) (.type "type") m = some (.val (.ref f))
  kp : PySem.W.keepIn K (.ref f) = true
  kc : PySem.W.keepIn K (.ref C) = true
def clsFnB (K : PySem.W.Frag) (C : Addr) (m : Str) (f : Addr) : Bool := PySem.W.readsIn K C (.type "type") && (decide (PySem.W.specialIn K (.ref C) "__getattribute__" = some (some (.builtin "type.__getattribute__"))) &&
  ((match PySem.W.findCls K (.ref C) (.type "type") m with
    | some (.val (.ref g)) => decide (g = f)
    | _ => false) && (PySem.W.keepIn K (.ref f) && PySem.W.keepIn K (.ref C))))
theorem clsFnB_ok {K : PySem.W.Frag} {C : Addr} {m : Str} {f : Addr} (h : clsFnB K C m f = true) : ClsFn K C m f := by
  unfold clsFnB at h
  simp only [Bool.and_eq_true, decide_eq_true_eq] at h
  obtain ⟨h1, h2, h3, h4, h5⟩ := h
  refine ⟨⟨h1, h2⟩, ?_, h4, h5⟩
  split at h3
  · rename_i g e
    rw [e, of_decide_eq_true h3]
  · cases h3
theorem pe_clsm {X : Cx} {CX : CXT} {k : Nat} {C f : Addr} {U m : Str} {fd : FuncData} {ps : List Str} {sp : Sp} {dvs : List V} {ds : List Value} {E : XK} {e : Expr} {es : List Expr} {t : TA} {p1 p2 pos : Pos} {pl : Sem Bool}
    (c : ClsFn X.K C m f) (F : FnOk X.prog X.w X.K X.mg X.base CX k f fd ps sp) (hr : Room k X.A) (hb : Binds X.K fd ps ds) (hd : Vals dvs ds) (hx : Passes CX X E) (hg : Gl X U) (hm : X.mg U = some (.ref C)) (ha : PA X (e :: es) t)
    (hc : eval (.Call (.Attribute (.Name U p1) m p2) (e :: es) [] pos) X.env = (do
      let ov ← eval (.Name U p1) X.env
      standAt p2.atName
      let (f, first) ← holding [ov] (getMethod ov m pl)
      callWith pos f first (backTo pos (starEach (e :: es) X.env)) (backToKw pos (keywordEach [] X.env))) := by rfl)
    (hst : starEach (e :: es) X.env = (false, eval e X.env) :: starEach es X.env := by rfl) (hpl : (backTo pos (starEach es X.env)).any (·.1) = false := by rfl) (hdb : (U == ("__debug__" : Str)) = false := by decide) :
    PE X (.Call (.Attribute (.Name U p1) m p2) (e :: es) [] pos) (tCall sp dvs E t) := by
  refine ⟨fun pins s σ H Q I h => ?_⟩
  refine PySem.W.methodCall_KW (ld_glob I hg hm ?_ hdb) hc
  have cv : CVal X.K C (.type "type") m (.ref f) (.ref f) := ⟨c.at_, rfl⟩
  refine PySem.W.method_cls (Inv.kIn I) c.rd.ga (getcval_ok I c.rd cv fun s' I' => ?_)
  refine PySem.W.callWith_K (first := []) (h₀ := X.base) I.ok.mod.kin c.kp (thn (ha.run pos pins s' σ H _ I' h) fun us s2 ⟨vs, H2, I2, r, q2⟩ => ⟨I2.kIn, ?_⟩) hst hpl
  exact run_fn (us := us) (vs := vs) F hr hb hd hx I2 r q2
/-! ### an exception's __init__ -/
/-- e with its dict d, the fields fs -/
def exH (H : Hp) (a C d : Addr) (fs : List (Str × V)) : Hp := upd (upd H d (exd d fs)) a (exo a C (some d))
theorem exH_a {H : Hp} {a C d : Addr} {fs : List (Str × V)} : exH H a C d fs a = some (exo a C (some d)) := upd_same
theorem exH_d {H : Hp} {a C d : Addr} {fs : List (Str × V)} (h : d ≠ a) : exH H a C d fs d = some (exd d fs) := by unfold exH; rw [upd_ne h, upd_same]
theorem exH_put {H : Hp} {a C d : Addr} {fs gs : List (Str × V)} (h : d ≠ a) : upd (exH H a C d fs) d (exd d gs) = exH H a C d gs := by
  funext b
  unfold exH
  by_cases h1 : b = d
  · subst h1
    rw [upd_same, upd_ne h, upd_same]
  · rw [upd_ne h1]
    by_cases h2 : b = a
    · subst h2; rw [upd_same, upd_same]
    · rw [upd_ne h2, upd_ne h1, upd_ne h2, upd_ne h1]
theorem exH_new {H : Hp} {a C d : Addr} {fs : List (Str × V)} (ha : H a = none) (h : d ≠ a) : upd (del (exH H a C d fs) a) d (.xd fs) = upd H d (.xd fs) := by
  funext b
  by_cases h1 : b = d
  · subst h1; rw [upd_same, upd_same]
  · rw [upd_ne h1, upd_ne h1]
    by_cases h2 : b = a
    · subst h2; rw [del_same, ha]
    · rw [del_ne h2]
      unfold exH
      rw [upd_ne h2, upd_ne h1]
theorem exH_up {H : Hp} {a C d : Addr} {o : HO} {fs : List (Str × V)} : exH (upd H a o) a C d fs = exH H a C d fs := by
  funext b
  unfold exH
  by_cases h2 : b = a
  · subst h2; rw [upd_same, upd_same]
  · rw [upd_ne h2, upd_ne h2]
    by_cases h1 : b = d
    · subst h1; rw [upd_same, upd_same]
    · rw [upd_ne h1, upd_ne h1, upd_ne h2]
def spX (K : PySem.W.Frag) (ns : List Str) (n : Nat) (fsOf : List V → List (Str × V)) : Sp := fun vs H Q E => ∃ (a C : Addr) (us : List V), vs = .ref a :: us ∧ us.length = n ∧ OexC K C ∧ (∀ f ∈ ns, PySem.W.findIn K (.ref C) f = some none) ∧
  H a = some (exo a C none) ∧ ∀ d, H d = none → d ≠ a → Q .non (exH H a C d (fsOf us))
theorem spX_len {K : PySem.W.Frag} {ns : List Str} {n : Nat} {fsOf : List V → List (Str × V)} {ps : List Str} (hp : ps.length = n + 1) : ∀ vs H Q E, spX K ns n fsOf vs H Q E → vs.length = ps.length := fun vs H Q E h => by
  obtain ⟨a, C, us, e, hl, _⟩ := h
  rw [e, hp, List.length_cons, hl]
/-- the stores behind: field, slot -/
def putAll (σ : L2.St) : List (Str × Nat) → List (Str × V) → List (Str × V)
  | [], fs => fs
  | p :: l, fs => putAll σ l ((p.1, (σ[p.2]?).join.getD .non) :: fs)
structure Sts (X : Cx) (body : List Stmt) (l : List (Str × Nat)) : Prop where
  ex : ∃ t, PSs X body t ∧ ∀ (D : Ends) (σ : L2.St) (H : Hp) (a C d : Addr) (fs : List (Str × V)), OexC X.K C → (∀ p ∈ l, PySem.W.findIn X.K (.ref C) p.1 = some none) → fs.length + l.length ≤ 900 → σ[0]? = some (some (.ref a)) →
    (∀ p ∈ l, ∃ v, σ[p.2]? = some (some v)) → d ≠ a → D.nx σ (exH H a C d (putAll σ l fs)) → t D σ (exH H a C d fs)
theorem sts_nil {X : Cx} : Sts X [] [] := ⟨⟨tNext, pss_nil, fun D σ H a C d fs _ _ _ _ _ _ h => h⟩⟩
theorem sts_cons {X : Cx} {r : List Stmt} {l : List (Str × Nat)} {x y f : Str} {p1 p2 p3 pos : Pos} (i : Nat) (h0 : X.N[0]? = some x) (v0 : Vis X.env.scope x) (hi : X.N[i]? = some y) (vi : Vis X.env.scope y) (h : Sts X r l)
    (d1 : (x == ("__debug__" : Str)) = false := by decide +kernel) (d2 : (x == ("__classdict__" : Str)) = false := by decide +kernel) (d3 : (y == ("__debug__" : Str)) = false := by decide +kernel) (d4 : (y == ("__classdict__" : Str)) = false := by decide +kernel)
    (hs : swapsWith (.Name y p3) (some (.Attribute (.Name x p1) f p2)) pos.line X.env = pure false := by rfl) :
    Sts X (.Assign [.Attribute (.Name x p1) f p2] (.Name y p3) pos :: r) ((f, i) :: l) := by
  obtain ⟨t, a1, a2⟩ := h.ex
  refine ⟨⟨tSeq (tOst X.K f (tVar 0) (tVar i)) t, pss_cons (ps_ost (pe_var h0 v0 d1 d2) (pe_var hi vi d3 d4) hs) a1, fun D σ H a C d fs T hn hl s0 hs hd q => ?_⟩⟩
  obtain ⟨v, hv⟩ := hs (f, i) List.mem_cons_self
  refine ⟨v, hv, .ref a, s0, a, C, rfl, T, hn (f, i) List.mem_cons_self, .inr ⟨d, fs, exH_a, exH_d hd, ?_, ?_⟩⟩
  · simp only [List.length_cons] at hl; omega
  · rw [exH_put hd]
    refine a2 D σ H a C d ((f, v) :: fs) T (fun p hp => hn p (List.mem_cons_of_mem _ hp)) (by simp only [List.length_cons] at hl ⊢; omega) s0 (fun p hp => hs p (List.mem_cons_of_mem _ hp)) hd ?_
    have e : putAll σ ((f, i) :: l) fs = putAll σ l ((f, v) :: fs) := by
      show putAll σ l ((f, (σ[i]?).join.getD .non) :: fs) = _
      rw [hv]; rfl
    rw [← e]
    exact q
/-- the root's: ValueError.__init__(self, word); self.word = word -/
def fsRoot (f : Str) : List V → List (Str × V)
  | [w] => [(f, w)]
  | _ => []
theorem fn_root {B : Bs} {x qual : Str} {s w f : Str} {params : Arguments} {scope : Scope} {dvs : List V} {kws : List (Str × V)} {fa : Addr} {fd : FuncData} {p1 p2 p3 p4 p5 pos q1 q2 q3 pos2 : Pos} (lv : Nat)
    (Fu : FunD B.K x qual params [.Expr (.Call (.Attribute (.Name "ValueError" p1) "__init__" p2) [.Name s p3, .Name w p4] [] pos) p5, .Assign [.Attribute (.Name s q1) f q2] (.Name w q3) pos2] scope dvs kws fa fd) (S : FnScope [s, w] [s, w] scope)
    (hs : scope.names.lookup s = some .local) (hw : scope.names.lookup w = some .local) (hg : scope.names.lookup ("ValueError" : Str) = some .globalImplicit) (hm : B.mg "ValueError" = none) (vV : PySem.W.findCls B.K (.type "ValueError") (.type "type") "__init__" = some (.val (.builtin "ValueError.__init__")))
    (hline : (p2.endLine == pos.line) = true := by rfl) (d1 : (s == ("__debug__" : Str)) = false := by decide +kernel) (d2 : (s == ("__classdict__" : Str)) = false := by decide +kernel) (d3 : (w == ("__debug__" : Str)) = false := by decide +kernel) (d4 : (w == ("__classdict__" : Str)) = false := by decide +kernel) :
    FnOk B.P B.w B.K B.mg B.base (L2.CX B.P B.w) (lv + 1) fa fd [s, w] (spX B.K [f] 1 (fsRoot f)) := by
  obtain ⟨oc, od, dV, kV, doc, pm, an, cdv, ct, osl, rfl, lk, hcd, _, _⟩ := Fu.ex
  refine fn_of lk hcd S (spX_len rfl) fun A outer s1 H vs Q E hr hsp => ?_
  refine ⟨_, pss_cons (ps_expr (pe_veinit hg hm vV (pa_cons (pe_var (i := 0) rfl (.inl hs) d1 d2) (pa_cons (pe_var (i := 1) rfl (.inl hw) d3 d4) pa_nil)) (mc_eval rfl hline))) (pss_cons (ps_ost (pe_var (i := 0) rfl (.inl hs) d1 d2) (pe_var (i := 1) rfl (.inl hw) d3 d4)) pss_nil), ?_⟩
  obtain ⟨a, C, us, ev, hl, T, hn, hH, hQ⟩ := hsp
  match us, hl with
  | [v], _ =>
    subst ev
    refine ⟨.ref a, rfl, v, rfl, a, C, [v], rfl, by simp, T, hH, v, rfl, .ref a, rfl, a, C, rfl, T, hn f List.mem_cons_self, .inl ⟨hH, fun dx h1 h2 => ?_⟩⟩
    exact hQ dx h1 h2
/-- .. one above: U.__init__(self, word) -/
theorem fn_up {B : Bs} {x qual : Str} {s w U : Str} {ns : List Str} {fsOf : List V → List (Str × V)} {params : Arguments} {scope : Scope} {dvs : List V} {kws : List (Str × V)} {fa CU fU : Addr} {fd fdU : FuncData} {psU : List Str} {p1 p2 p3 p4 p5 pos : Pos} {k : Nat} (lv : Nat)
    (Fu : FunD B.K x qual params [.Expr (.Call (.Attribute (.Name U p1) "__init__" p2) [.Name s p3, .Name w p4] [] pos) p5] scope dvs kws fa fd) (S : FnScope [s, w] [s, w] scope)
    (hs : scope.names.lookup s = some .local) (hw : scope.names.lookup w = some .local) (hg : scope.names.lookup U = some .globalImplicit) (hm : B.mg U = some (.ref CU)) (c : ClsFn B.K CU "__init__" fU)
    (F1 : FnOk B.P B.w B.K B.mg B.base (L2.CX B.P B.w) k fU fdU psU (spX B.K ns 1 fsOf)) (hk : k ≤ lv) (hb : Binds B.K fdU psU [])
    (hline : (p2.endLine == pos.line) = true := by rfl) (d0 : (U == ("__debug__" : Str)) = false := by decide +kernel) (d1 : (s == ("__debug__" : Str)) = false := by decide +kernel) (d2 : (s == ("__classdict__" : Str)) = false := by decide +kernel) (d3 : (w == ("__debug__" : Str)) = false := by decide +kernel) (d4 : (w == ("__classdict__" : Str)) = false := by decide +kernel) :
    FnOk B.P B.w B.K B.mg B.base (L2.CX B.P B.w) (lv + 1) fa fd [s, w] (spX B.K ns 1 fsOf) := by
  obtain ⟨oc, od, dV, kV, doc, pm, an, cdv, ct, osl, rfl, lk, hcd, _, _⟩ := Fu.ex
  refine fn_of lk hcd S (spX_len rfl) fun A outer s1 H vs Q E hr hsp => ?_
  refine ⟨_, pss_cons (ps_expr (pe_clsm c F1 (hr.mono hk) hb .nil passL hg hm (pa_cons (pe_var (i := 0) rfl (.inl hs) d1 d2) (pa_cons (pe_var (i := 1) rfl (.inl hw) d3 d4) pa_nil)) (mc_eval rfl hline) rfl rfl d0)) pss_nil, ?_⟩
  obtain ⟨a, C, us, ev, hl, T, hn, hH, hQ⟩ := hsp
  match us, hl with
  | [v], _ =>
    subst ev
    exact ⟨.ref a, rfl, v, rfl, a, C, [v], rfl, rfl, T, hn, hH, fun d h1 h2 => hQ d h1 h2⟩
def putV (us : List V) : List (Str × Nat) → List (Str × V) → List (Str × V)
  | [], fs => fs
  | p :: l, fs => putV us l ((p.1, (us[p.2 - 1]?).getD .non) :: fs)
theorem putAll_eq {N : List Str} {r : V} {us : List V} : ∀ {l : List (Str × Nat)} {fs : List (Str × V)}, (∀ p ∈ l, 1 ≤ p.2 ∧ p.2 ≤ us.length) → putAll (L2.start N (r :: us)) l fs = putV us l fs
  | [], _, _ => rfl
  | p :: l, fs, h => by
    have hp := h p List.mem_cons_self
    unfold putAll putV
    have e : (L2.start N (r :: us))[p.2]? = some (us[p.2 - 1]?) := by
      unfold L2.start
      obtain ⟨i, hi⟩ : ∃ i, p.2 = i + 1 := ⟨p.2 - 1, by omega⟩
      rw [hi, List.map_cons, List.cons_append, List.getElem?_cons_succ, List.getElem?_append_left (by simp; omega), List.getElem?_map]
      have hlt : i < us.length := by omega
      simp [List.getElem?_eq_getElem hlt]
    rw [e]
    exact putAll_eq fun q hq => h q (List.mem_cons_of_mem _ hq)
/-- .. of a class that is raised: U.__init__(self, "its name"), then its fields -/
theorem fn_leaf {B : Bs} {x qual : Str} {s U f c : Str} {ps : List Str} {rest : List Stmt} {l : List (Str × Nat)} {params : Arguments} {scope : Scope} {dvs : List V} {kws : List (Str × V)} {fa CU fU : Addr} {fd fdU : FuncData} {psU : List Str} {j : Nat} {p1 p2 p3 p4 p5 pos : Pos} {k : Nat} (lv : Nat)
    (Fu : FunD B.K x qual params (.Expr (.Call (.Attribute (.Name U p1) "__init__" p2) [.Name s p3, .Constant (.str c) j p4] [] pos) p5 :: rest) scope dvs kws fa fd) (S : FnScope (s :: ps) (s :: ps) scope)
    (hs : scope.names.lookup s = some .local) (hg : scope.names.lookup U = some .globalImplicit) (hm : B.mg U = some (.ref CU)) (c1 : ClsFn B.K CU "__init__" fU)
    (F1 : FnOk B.P B.w B.K B.mg B.base (L2.CX B.P B.w) k fU fdU psU (spX B.K [f] 1 (fsRoot f))) (hk : k ≤ lv) (hb : Binds B.K fdU psU [])
    (hst : ∀ X : Cx, X.N = s :: ps → X.env.scope = scope → Sts X rest l) (hl : ∀ p ∈ l, 1 ≤ p.2 ∧ p.2 ≤ ps.length) (hn : l.length ≤ 800)
    (hline : (p2.endLine == pos.line) = true := by rfl) (d0 : (U == ("__debug__" : Str)) = false := by decide +kernel) (d1 : (s == ("__debug__" : Str)) = false := by decide +kernel) (d2 : (s == ("__classdict__" : Str)) = false := by decide +kernel) :
    FnOk B.P B.w B.K B.mg B.base (L2.CX B.P B.w) (lv + 1) fa fd (s :: ps) (spX B.K (f :: l.map (·.1)) ps.length (fun us => putV us l [(f, .str c)])) := by
  obtain ⟨oc, od, dV, kV, doc, pm, an, cdv, ct, osl, rfl, lk, hcd, _, _⟩ := Fu.ex
  refine fn_of lk hcd S (spX_len (by simp)) fun A outer s1 H vs Q E hr hsp => ?_
  obtain ⟨t, t1, t2⟩ := (hst (cxOf (L2.CX B.P B.w) B.P B.w B.K B.mg B.base (s :: ps) qual scope fa cdv A outer s1 H E) rfl rfl).ex
  refine ⟨_, pss_cons (ps_expr (pe_clsm c1 F1 (hr.mono hk) hb .nil passL hg hm (pa_cons (pe_var (i := 0) rfl (.inl hs) d1 d2) (pa_cons pe_str pa_nil)) (mc_eval rfl hline) rfl rfl d0)) t1, ?_⟩
  obtain ⟨a, C, us, ev, hul, T, hno, hH, hQ⟩ := hsp
  subst ev
  have hlu : ∀ p ∈ l, 1 ≤ p.2 ∧ p.2 ≤ us.length := fun p hp => by rw [hul]; exact hl p hp
  refine ⟨.ref a, rfl, a, C, [.str c], rfl, rfl, T, fun g hg => hno g (by rw [List.mem_singleton.mp hg]; exact List.mem_cons_self), hH, fun d h1 h2 => ?_⟩
  refine t2 _ _ H a C d [(f, .str c)] T (fun p hp => hno p.1 (List.mem_cons_of_mem _ (List.mem_map.mpr ⟨p, hp, rfl⟩))) (by simp; omega) rfl (fun p hp => ?_) h2 ?_
  · obtain ⟨q1, q2⟩ := hlu p hp
    obtain ⟨i, hi⟩ : ∃ i, p.2 = i + 1 := ⟨p.2 - 1, by omega⟩
    have hlt : i < us.length := by omega
    refine ⟨us[i], ?_⟩
    unfold L2.start
    rw [hi, List.map_cons, List.cons_append, List.getElem?_cons_succ, List.getElem?_append_left (by simp; omega), List.getElem?_map, List.getElem?_eq_getElem hlt]
    rfl
  · rw [putAll_eq hlu]
    exact hQ d h1 h2
end Dn
end
section
/-! raise. -/
namespace Dn
open PySem L2 PySem.Spec PyProof.Rows
structure ExK (B : Bs) (j : Nat) (x : Str) (n : Nat) (l : List (Str × Nat)) (f c : Str) : Prop where
  ex : ∃ (C fI : Addr) (fd : FuncData) (ps : List Str), B.mg x = some (.ref C) ∧ B.cls x = some C ∧ OexC B.K C ∧ PySem.W.findIn B.K (.ref C) "__init__" = some (some (.ref fI)) ∧ PySem.W.typeIn B.K (.ref fI) = some (.type "function") ∧
    (∀ g ∈ f :: l.map (·.1), PySem.W.findIn B.K (.ref C) g = some none) ∧ FnOk B.P B.w B.K B.mg B.base (L2.CX B.P B.w) j fI fd ps (spX B.K (f :: l.map (·.1)) n (fun us => putV us l [(f, .str c)])) ∧ Binds B.K fd ps []
def putD (ds : List Dt) : List (Str × Nat) → List (Str × Dt) → List (Str × Dt)
  | [], fs => fs
  | p :: l, fs => putD ds l ((p.1, (ds[p.2 - 1]?).getD .non) :: fs)
theorem getD_rp {k : Kp} {D : Hp} {us : List V} {ds : List Dt} (r : RpL k D us ds) (i : Nat) : Rp k D ((us[i]?).getD .non) ((ds[i]?).getD .non) := by
  cases e : us[i]? with
  | some v =>
    obtain ⟨d, h1, h2⟩ := r.get e
    rw [h1]
    exact h2
  | none =>
    have h1 : ds[i]? = none := by
      rw [List.getElem?_eq_none_iff] at e ⊢
      rw [← r.length]; exact e
    rw [h1]
    exact .non
theorem put_rp {k : Kp} {D : Hp} {us : List V} {ds : List Dt} (r : RpL k D us ds) : ∀ (l : List (Str × Nat)) {fs : List (Str × V)} {gs : List (Str × Dt)}, fs.map (·.1) = gs.map (·.1) → RpL k D (fs.map (·.2)) (gs.map (·.2)) →
    (putV us l fs).map (·.1) = (putD ds l gs).map (·.1) ∧ RpL k D ((putV us l fs).map (·.2)) ((putD ds l gs).map (·.2))
  | [], _, _, h1, h2 => ⟨h1, h2⟩
  | p :: l, fs, gs, h1, h2 => put_rp r l (fs := (p.1, (us[p.2 - 1]?).getD .non) :: fs) (gs := (p.1, (ds[p.2 - 1]?).getD .non) :: gs) (by simp [h1]) (.cons (getD_rp r _) h2)
def sRaise (x : Str) (n : Nat) (l : List (Str × Nat)) (f c : Str) (ga : GA) : GS := fun env w => match ga env w with
  | .ok ds w1 => if ds.length = n then .exc x (putD ds l [(f, .str c)]) env w1 else .bad
  | .exc c fs w1 => .exc c fs env w1
  | .bad => .bad
/-- C(), C's own __init__ keeping sp -/
theorem pmk_oex0 {X : Cx} {CX : CXT} {x : Str} {C fI : Addr} {k : Nat} {fd : FuncData} {ps : List Str} {sp : Sp} {p pos : Pos} (T : OexC X.K C) (iC : PySem.W.findIn X.K (.ref C) "__init__" = some (some (.ref fI))) (tI : PySem.W.typeIn X.K (.ref fI) = some (.type "function"))
    (F1 : FnOk X.prog X.w X.K X.mg X.base CX k fI fd ps sp) (hr : Room (k + 1) X.A) (hb : Binds X.K fd ps []) (hx : Passes CX X (fun _ _ _ => False)) (hg : Gl X x) (hm : X.mg x = some (.ref C))
    (hdb : (x == ("__debug__" : Str)) = false := by decide) :
    PMk X (.Call (.Name x p) [] [] pos) (tMkO C sp [] tNil) := by
  intro pins s σ H Q I h
  obtain ⟨nm, q, N, bs, bm, sn, sub, ab, col, dd, k0, k1, k2, k3, k5, hC, hbm⟩ := T.cls
  refine wpAny_Call_Name_kw (ld_glob I hg hm ?_ hdb)
  refine PySem.W.callWith_K0 I.kIn T.kC ?_
  show wpAny _ _ (call (.ref C) []) _ _ _
  obtain ⟨hp, g, dr, tk, os⟩ := s
  have hsz : hp.objs.size ≤ hp.objs.size + 1 := Nat.le_succ _
  have hn : H (hp.objs.size + 1) = none := I.hok.fresh hsz
  have hq := h.2 (hp.objs.size + 1) hn
  have kk : ∀ b o, hp.get? b = some o → ((hp.push (PySem.W.kdv_tup [])).push (PySem.HandSPX.excO C hp.objs.size)).get? b = some o := fun b o e => Heap.get?_push_of_some _ (Heap.get?_push_of_some _ e)
  have hget : ((hp.push (PySem.W.kdv_tup [])).push (PySem.HandSPX.excO C hp.objs.size)).get? (hp.objs.size + 1) = some (PySem.HandSPX.excO C hp.objs.size) := by heap_get
  have I2 : Inv X pins σ (upd H (hp.objs.size + 1) (exo (hp.objs.size + 1) C none)) ⟨(hp.push (PySem.W.kdv_tup [])).push (PySem.HandSPX.excO C hp.objs.size), g, dr, tk, os⟩ :=
    I.laid (t' := tk) (a := hp.objs.size + 1) (o := exo (hp.objs.size + 1) C none) (h' := (hp.push (PySem.W.kdv_tup [])).push (PySem.HandSPX.excO C hp.objs.size)) kk hsz (exo_ok hget)
  have r2 : Vals (V.ref (hp.objs.size + 1) :: ([] ++ [])) ([Value.ref (hp.objs.size + 1)] ++ []) := .cons rfl .nil
  have hl : ([Value.ref (hp.objs.size + 1)] ++ []).length = ps.length := by
    have e := r2.length
    rw [F1.len _ _ _ _ hq] at e
    exact e.symm
  refine wpAny_call (PySem.HandSPX.call_own F.excBase_ValueError (fun Y => PySem.HandSPX.refsVE_contains Y bm hbm) (I.kIn _ _ hC) (PySem.W.looks_findIn I.kIn iC) (fun self => PySem.W.bind_fn I.kIn self tI) (rest := []) (Nat.zero_le _)
    (codeAny_mono (F1.run _ X.stack _ _ ⟨Value.ref (hp.objs.size + 1) :: [], []⟩ ([Value.ref (hp.objs.size + 1)] ++ []) _ _ (fun _ _ _ => False) (hr.make C [] []) (I2.env0.make C [] []) (hb _ (Value.ref (hp.objs.size + 1) :: []) I2.kIn hl) r2 hq) fun r s' hq' => ?_))
  cases r with
  | error er => exact hx pins σ _ _ er s' I2 hq'
  | ok fl =>
    cases fl with
    | ret u =>
      obtain ⟨v, H2, os2, bare2, un2, hok2, rv, ev, d, fs, ea, ed, hd1, q2⟩ := hq'
      subst ev
      obtain ⟨h2, g2, d2, t2, os'⟩ := s'
      exact ⟨rv, mk_end (raises_own T.exC T.tyC) I hsz kk un2 hok2 os2 bare2 ea ed hd1 q2⟩
    | next => exact False.elim hq'
    | brk => exact False.elim hq'
    | cont => exact False.elim hq'
section
variable {F : Fc}
theorem den_raise {W : WX} {x : Str} {n : Nat} {l : List (Str × Nat)} {f c : Str} {C : Addr} {ns : List Str} {ta : TA} {ga : GA} (ha : DenL F W ta ga) (hn : n ≤ 1000) (hc : F.cls x = some C) (T : OexC F.K C) (hno : ∀ g ∈ ns, PySem.W.findIn F.K (.ref C) g = some none) :
    DenS F W (fun _ σ H => tMkO C (spX F.K ns n (fun us => putV us l [(f, .str c)])) [] ta σ H fun cls d H' => W cls d σ H') (sRaise x n l f c ga) := by
  intro Ct env w σ D H Dn K S p
  refine ha Ct env w σ D H _ K S ?_
  unfold sRaise at p
  cases ea : ga env w with
  | bad => rw [ea] at p; exact p.elim
  | exc c fs w1 => rw [ea] at p; exact p σ
  | ok ds w1 =>
    rw [ea] at p
    simp only at p
    intro vs D1 H1 S1 s1 r
    by_cases hl : ds.length = n
    · rw [if_pos hl] at p
      have hvl : vs.length = n := r.length.trans hl
      refine ⟨by rw [hvl]; exact hn, fun a ha => ⟨a, C, vs, by rw [List.append_nil], hvl, T, hno, upd_same, fun d hd hda => ?_⟩⟩
      rw [upd_ne hda] at hd
      rw [exH_up]
      refine ⟨rfl, d, _, exH_a, exH_d hda, hd, ?_⟩
      rw [exH_new ha hda]
      have x' := Ex.new (o := .xd (putV vs l [(f, .str c)])) S1.up hd
      obtain ⟨q1, q2⟩ := put_rp (r.mono x'.sub) l (fs := [(f, .str c)]) (gs := [(f, .str c)]) rfl (.cons (.str c) .nil)
      exact p σ C d _ _ (S1.ex x') ⟨by rw [K.cls]; exact hc, _, upd_same, q1, q2⟩
    · rw [if_neg hl] at p; exact p.elim
theorem ds_raise {x : Str} {j n : Nat} {l : List (Str × Nat)} {f c : Str} {p pos pos2 : Pos} {e : Expr} {es : List Expr} {ga : GA} (G : ExK F.toBs j x n l f c) (hj : j + 1 ≤ F.lv) (hc : F.calm = true) (hn : n ≤ 1000) (hg : F.sc.names.lookup x = some .globalImplicit) (h : DL F (e :: es) ga)
    (hdb : (x == ("__debug__" : Str)) = false := by decide +kernel) (he : ∀ env, starEach (e :: es) env = (false, eval e env) :: starEach es env := by intro _; rfl) (hpl : ∀ env, (backTo pos (starEach es env)).any (·.1) = false := by intro _; rfl) :
    DS F (.Raise (some (.Call (.Name x p) (e :: es) [] pos)) none pos2) (sRaise x n l f c ga) := by
  obtain ⟨ta, a1, a2⟩ := h.ex
  obtain ⟨C, fI, fd, ps, hm, hcl, T, iC, tI, hno, F1, hb⟩ := G.ex
  refine ⟨⟨fun W => _, fun X W O Tk_ => ?_, fun W => den_raise (a2 W) hn hcl T hno⟩⟩
  refine ps_raise (O.calm hc) Tk_.tk (pmk_oex (CX := L2.CX X.prog X.w) (C := C) (fI := fI) (fd := fd) (ps := ps) (ds := []) (k := j) ?_ ?_ ?_ ?_ ((O.full hc).mono hj) ?_ .nil passL ?_ ?_ (a1 X W O Tk_) hdb (he _) (hpl _))
  · rw [O.K]; exact T
  · rw [O.K]; exact iC
  · rw [O.K]; exact tI
  · rw [O.prog, O.w, O.K, O.mg, O.base]; exact F1
  · rw [O.K]; exact hb
  · show X.env.scope.names.lookup x = _; rw [O.sc]; exact hg
  · rw [O.mg]; exact hm
theorem ds_raise0 {x : Str} {j : Nat} {l : List (Str × Nat)} {f c : Str} {p pos pos2 : Pos} (G : ExK F.toBs j x 0 l f c) (hj : j + 1 ≤ F.lv) (hc : F.calm = true) (hg : F.sc.names.lookup x = some .globalImplicit)
    (hdb : (x == ("__debug__" : Str)) = false := by decide +kernel) :
    DS F (.Raise (some (.Call (.Name x p) [] [] pos)) none pos2) (sRaise x 0 l f c gNil) := by
  obtain ⟨C, fI, fd, ps, hm, hcl, T, iC, tI, hno, F1, hb⟩ := G.ex
  refine ⟨⟨fun W => _, fun X W O Tk_ => ?_, fun W => den_raise den_nil (Nat.zero_le _) hcl T hno⟩⟩
  refine ps_raise (O.calm hc) Tk_.tk (pmk_oex0 (CX := L2.CX X.prog X.w) (C := C) (fI := fI) (fd := fd) (ps := ps) (k := j) ?_ ?_ ?_ ?_ ((O.full hc).mono hj) ?_ passL ?_ ?_ hdb)
  · rw [O.K]; exact T
  · rw [O.K]; exact iC
  · rw [O.K]; exact tI
  · rw [O.prog, O.w, O.K, O.mg, O.base]; exact F1
  · rw [O.K]; exact hb
  · show X.env.scope.names.lookup x = _; rw [O.sc]; exact hg
  · rw [O.mg]; exact hm
end
end Dn
end
section
/-! try .. several clauses, each with a name. -/
namespace Tm
open PySem L2 PySem.Spec PyProof.Rows
/-- an exception of X's body come down to the except lines -/
structure Down (X : Cx) (pins : List (Addr × Obj)) (B : Heap) (a : Addr) (cls : Value) (d : Option Addr) (σ : L2.St) (H : Hp) (s : Shared) : Prop where
  fly : HandSPX.FlyingZ B X.stack a (Zc cls d) s.heap
  inv : ∃ sI : Shared, Inv X pins σ H sI ∧ (∀ b o, sI.heap.get? b = some o → b ∉ frs X.stack → B.get? b = some o) ∧ sI.heap.UpToSlots s.heap ∧ s.os = sI.os
  bare : AllBare s.gens
  un : H a = none
section
variable {X : Cx} {pins : List (Addr × Obj)} {B : Heap} {a : Addr} {cls : Value} {d : Option Addr} {σ : L2.St} {H : Hp} {s : Shared}
theorem Down.here (D : Down X pins B a cls d σ H s) : Inv X pins σ H s :=
  let ⟨sI, I, nb, up, os⟩ := D.inv
  I.landed nb D.fly.1 up os D.bare
theorem Down.obj (D : Down X pins B a cls d σ H s) : ∃ oe vs, s.heap.get? a = some oe ∧ Zc cls d oe ∧ oe.data = .fields vs := D.fly.there
theorem Down.off (D : Down X pins B a cls d σ H s) : a ∉ frs X.stack := fun hm => by
  obtain ⟨oe, vs, he, _, hd⟩ := D.obj
  obtain ⟨_, o', e', hnf⟩ := D.fly.2.2.1.mem hm
  rw [he] at e'
  cases e'
  exact hnf _ hd
/-- the state of a suite that holds it -/
theorem Down.suite (D : Down X pins B a cls d σ H s) (hs : X.stack = X.env :: X.outer) (hf : X.env.frame = some X.env.locals) {oe : Obj} {vs : Array Value} (he : s.heap.get? a = some oe) (hd : oe.data = .fields vs) :
    Inv (X.suite a ((a, oe) :: (X.pn ++ pins))) [] σ H s := by
  have off := D.off
  rw [hs] at off
  exact D.here.suite he hd D.un (fun z => off (List.mem_filterMap.mpr ⟨X.env, List.mem_cons_self, by rw [hf, z]⟩)) fun hm => by
    obtain ⟨e, h1, h2⟩ := List.mem_filterMap.mp hm
    exact off (List.mem_filterMap.mpr ⟨e, List.mem_cons_of_mem _ h1, h2⟩)
/-- no clause takes it -/
theorem Down.none {D' : Ends} {Wout : WX} (D : Down X pins B a cls d σ H s) (hf : X.env.frame = some X.env.locals) (tk : Takes X Wout) (w : Wout cls d σ H) :
    wpAny (model X.prog X.w) X.A (handleBy (.ref a) X.env []) (SP X pins D') X.xe s := by
  refine wpAny_handleBy_nil ?_
  obtain ⟨k1, k2, k3, oe, vs, T, oT, ts', he, hz, hd, h1, hr⟩ := id D.fly
  obtain ⟨sI, I, nb, up, os⟩ := D.inv
  have fin : wpAny (model X.prog X.w) X.A (setFlight (.ref a) X.env.frame) (fun _ s4 => wpAny (model X.prog X.w) X.A (throw (.ref a) : Sem Flow) (SP X pins D') X.xe s4) X.xe s := by
    rw [hf]
    exact HandSPX.setFlight_upZ D.fly fun h4 hh4 up4 => wpAny_throw (tk _ _ ⟨a, B, sI, pins, σ, H, cls, d, rfl, I, nb, up.trans up4, .inr (.inr hh4), D.un, os, D.bare, w⟩)
  unfold PySem.passOn
  refine wpAny_bind (wpAny_field he hd h1 ?_)
  rw [if_neg (show ¬ ((Value.ref T == Value.none) = true) from by simp)]
  first
    | exact wpAny_bind (wpAny_pure (wpAny_bind fin))
    | exact wpAny_bind fin
end
/-- the wish, clause by clause: its class, its name's slot, what its suite does -/
def wClauses (K : PySem.W.Frag) (Wout : WX) (D : Ends) : List (Value × Nat × (Addr → Value → Option Addr → TS)) → WX
  | [] => Wout
  | (c, i, ts) :: r => fun cls d σ H => ∃ b, PySem.W.exmOne K cls c = some b ∧
      (b = true → ∀ a, H a = none → ts a cls d { nx := fun σ' H' => D.nx (σ'.set i none) H', rt := D.rt, bk := fun σ' H' => D.bk (σ'.set i none) H', ct := fun σ' H' => D.ct (σ'.set i none) H' } (σ.set i (some (.ref a))) H) ∧
      (b = false → wClauses K Wout D r cls d σ H)
inductive Clauses (X : Cx) : List ExceptHandler → List (Value × Nat × (Addr → Value → Option Addr → TS)) → Prop
  | nil : Clauses X [] []
  | cons {x n : Str} {c : Value} {i : Nat} {ts : Addr → Value → Option Addr → TS} {b₀ : Stmt} {suite : List Stmt} {np pos' : Pos} {hds : List ExceptHandler} {l : List (Value × Nat × (Addr → Value → Option Addr → TS))} (hi : X.N[i]? = some n) (hln : X.env.kindOf n = some .local) (hc : Names X x c)
      (hsu : ∀ (a : Addr) (oe : Obj) (cls : Value) (d : Option Addr) (pn : List (Addr × Obj)), Zc cls d oe → (∃ vs, oe.data = .fields vs) → PSs (X.suite a ((a, oe) :: pn)) (b₀ :: suite) (ts a cls d)) (r : Clauses X hds l) :
      Clauses X (.ExceptHandler (some (.Name x np)) (some n) (b₀ :: suite) pos' :: hds) ((c, i, ts) :: l)
end Tm
end
section
/-! try .. except X as e. -/
namespace Dn
open PySem L2 PySem.Spec Tm
/-! ### data without exceptions -/
mutual
def noX : Dt → Bool
  | .tup xs => noXL xs
  | .lst xs => noXL xs
  | .dic kvs => noXK kvs
  | .dicT kvs => noXT kvs
  | .dicF kvs => noXK kvs
  | .obj _ fs => noXF fs
  | .exn _ _ => false
  | _ => true
def noXL : List Dt → Bool
  | [] => true
  | x :: xs => noX x && noXL xs
def noXK : List (Key × Dt) → Bool
  | [] => true
  | x :: xs => noX x.2 && noXK xs
def noXT : List (List Key × Dt) → Bool
  | [] => true
  | x :: xs => noX x.2 && noXT xs
def noXF : List (Str × Dt) → Bool
  | [] => true
  | x :: xs => noX x.2 && noXF xs
end
theorem noXK_eq : ∀ kvs : List (Key × Dt), noXK kvs = noXL (kvs.map (·.2))
  | [] => rfl
  | x :: xs => by simp [noXK, noXL, noXK_eq xs]
theorem noXT_eq : ∀ kvs : List (List Key × Dt), noXT kvs = noXL (kvs.map (·.2))
  | [] => rfl
  | x :: xs => by simp [noXT, noXL, noXT_eq xs]
theorem noXF_eq : ∀ kvs : List (Str × Dt), noXF kvs = noXL (kvs.map (·.2))
  | [] => rfl
  | x :: xs => by simp [noXF, noXL, noXF_eq xs]
/-- the same run, but for the exception that is held -/
structure KpX (k k' : Kp) : Prop where
  K : k.K = k'.K
  cls : k.cls = k'.cls
  pd : k.pd = k'.pd
  sf : k.sf = k'.sf
section
variable {k k' : Kp} {D : Hp}
mutual
theorem Rp.nox (h : KpX k k') : ∀ {v : V} {d : Dt}, noX d = true → Rp k D v d → Rp k' D v d
  | _, _, _, .non => .non
  | _, _, _, .bl b => .bl b
  | _, _, _, .int i => .int i
  | _, _, _, .str x => .str x
  | _, _, n, .tup s r => .tup s (RpL.nox h (by simpa [noX] using n) r)
  | _, _, n, .lst s r => .lst s (RpL.nox h (by simpa [noX] using n) r)
  | _, _, n, .dic s e r => .dic s e (RpL.nox h (by rw [← noXK_eq]; simpa [noX] using n) r)
  | _, _, n, .dicF s e r => .dicF s e (RpL.nox h (by rw [← noXK_eq]; simpa [noX] using n) r)
  | _, _, n, .dicT s e r => .dicT s e (RpL.nox h (by rw [← noXT_eq]; simpa [noX] using n) r)
  | _, _, n, .obj s o c e r => .obj s o (h.cls ▸ c) e (RpL.nox h (by rw [← noXF_eq]; simpa [noX] using n) r)
  | _, _, n, .exn _ _ _ _ _ => by simp [noX] at n
  | _, _, _, .wd e => .wd (h.pd ▸ e)
  | _, _, _, .scr s => .scr (h.K ▸ s)
  | _, _, _, .emp s => .emp (h.K ▸ s)
theorem RpL.nox (h : KpX k k') : ∀ {vs : List V} {ds : List Dt}, noXL ds = true → RpL k D vs ds → RpL k' D vs ds
  | _, _, _, .nil => .nil
  | _, _, n, .cons a r => by
    have n' := (Bool.and_eq_true_iff.mp (show (noX _ && noXL _) = true by simpa [noXL] using n))
    exact .cons (Rp.nox h n'.1 a) (RpL.nox h n'.2 r)
end
end
def noXO : Ow → Bool
  | .lst ds => noXL ds
  | .dK kvs => noXK kvs
  | .dT kvs => noXT kvs
  | .ins _ fs => fs.all fun x => noX x.2.dt
  | .slf _ fs => fs.all fun x => noX x.2.dt
  | .ll dss => dss.all noXL
  | .dL kvs => kvs.all fun kv => noXL kv.2
def noXS : Sl → Bool
  | .un => true
  | .dat d => noX d
  | .own o => noXO o
theorem Kids.nox {k k' : Kp} {D : Hp} (h : KpX k k') {H : Hp} : ∀ {ps : List Addr} {dss : List (List Dt)}, dss.all noXL = true → Kids k D H ps dss → Kids k' D H ps dss
  | [], [], _, _ => trivial
  | p :: ps, ds :: dss, n, ⟨⟨vs, e, r⟩, t⟩ => by
    have n' : noXL ds = true ∧ dss.all noXL = true := by simpa using n
    exact ⟨⟨vs, e, r.nox h n'.1⟩, Kids.nox h n'.2 t⟩
  | [], _ :: _, _, h => h.elim
  | _ :: _, [], _, h => h.elim
theorem FldsOk.nox {k k' : Kp} {D : Hp} (h : KpX k k') {H : Hp} : ∀ {vs : List (Str × V)} {fs : List (Str × Fv)} {fp : List Addr}, (fs.all fun x => noX x.2.dt) = true → FldsOk k D H vs fs fp → FldsOk k' D H vs fs fp
  | [], [], _, _, z => z
  | (n, v) :: vs, (m, .d x) :: fs, fp, nn, ⟨e, r, t⟩ => by
    have n' : noX x = true ∧ (fs.all fun x => noX x.2.dt) = true := by simpa [Fv.dt] using nn
    exact ⟨e, r.nox h n'.1, FldsOk.nox h n'.2 t⟩
  | (n, v) :: vs, (m, .l ds) :: fs, fp, nn, ⟨e, q, r, us, e1, e2, hq, rr, t⟩ => by
    have n' : noXL ds = true ∧ (fs.all fun x => noX x.2.dt) = true := by simpa [Fv.dt, noX] using nn
    exact ⟨e, q, r, us, e1, e2, hq, rr.nox h n'.1, FldsOk.nox h n'.2 t⟩
  | [], (_, .d _) :: _, _, _, h => h.elim
  | [], (_, .l _) :: _, _, _, h => h.elim
  | _ :: _, [], _, _, h => h.elim
theorem InsAt.nox {k k' : Kp} {D : Hp} (h : KpX k k') {H : Hp} {p : Addr} {c : Str} {fs : List (Str × Fv)} {fp : List Addr} (n : (fs.all fun x => noX x.2.dt) = true) : InsAt k D H p c fs fp → InsAt k' D H p c fs fp
  | ⟨Ca, dx, vs, r, e, h1, h2, h3, t⟩ => ⟨Ca, dx, vs, r, e, h1, h2, h.cls ▸ h3, t.nox h n⟩
theorem OwnAt.nox {C C' : Ct} {D H : Hp} {p : Addr} (h : KpX C.k C'.k) : ∀ {o : Ow} {fp : List Addr}, noXO o = true → OwnAt C D H p o fp → OwnAt C' D H p o fp
  | .lst _, _, n, ⟨e, vs, hp, r⟩ => ⟨e, vs, hp, r.nox h n⟩
  | .dK _, _, n, ⟨e, vs, hp, q, r⟩ => ⟨e, vs, hp, q, r.nox h (by rw [← noXK_eq]; exact n)⟩
  | .dT _, _, n, ⟨e, vs, hp, q, r⟩ => ⟨e, vs, hp, q, r.nox h (by rw [← noXT_eq]; exact n)⟩
  | .ins _ _, _, n, o => InsAt.nox h n o
  | .slf _ _, _, n, ⟨z, o⟩ => ⟨h.sf ▸ z, o.nox h n⟩
  | .ll _, _, n, ⟨ps, e, hp, t⟩ => ⟨ps, e, hp, t.nox h n⟩
  | .dL kvs, _, n, ⟨ps, ks, e, hp, q1, q2, t⟩ => ⟨ps, ks, e, hp, q1, q2, t.nox h (by rw [List.all_map]; exact n)⟩
theorem SlotsOk.nox {C C' : Ct} {D H : Hp} (h : KpX C.k C'.k) : ∀ {ss : List Sl} {σ : L2.St} {fp : List Addr}, ss.all noXS = true → SlotsOk C D H ss σ fp → SlotsOk C' D H ss σ fp
  | [], [], _, _, s => s
  | .un :: ss, x :: xs, fp, n, ⟨f1, f2, e, a, r⟩ => ⟨f1, f2, e, a, r.nox h (by simpa [noXS] using n)⟩
  | .dat d :: ss, x :: xs, fp, n, ⟨f1, f2, e, ⟨a, v, hv, q⟩, r⟩ => by
    have n' : noX d = true ∧ ss.all noXS = true := by simpa [noXS] using n
    exact ⟨f1, f2, e, ⟨a, v, hv, q.nox h n'.1⟩, r.nox h n'.2⟩
  | .own o :: ss, x :: xs, fp, n, ⟨f1, f2, e, ⟨p, hp, q⟩, r⟩ => by
    have n' : noXO o = true ∧ ss.all noXS = true := by simpa [noXS] using n
    exact ⟨f1, f2, e, ⟨p, hp, q.nox h n'.1⟩, r.nox h n'.2⟩
  | [], _ :: _, _, _, s => s.elim
  | _ :: _, [], _, _, s => s.elim
/-- a run that holds the exception p -/
def Ct.hold (C : Ct) (p : Addr × Addr × Addr) : Ct := ⟨{ C.k with xa := some p }, C.H0, C.D0⟩
theorem Sta.hold {C : Ct} {env : Env} {w : Ds} {σ : L2.St} {D H : Hp} (S : Sta C env w σ D H []) (hx : C.k.xa = none) (p : Addr × Addr × Addr) : Sta (C.hold p) env w σ D H [] := by
  obtain ⟨fp, h1, h2, h3⟩ := S.sl
  exact ⟨S.up, S.d0, S.kp, S.nw, ⟨S.wd.dr, S.wd.tb, S.wd.tp⟩, fp, SlotsOk.kp (C := C) (C' := C.hold p) ⟨rfl, rfl, fun _ e => e, fun q e => (by rw [hx] at e; cases e)⟩ (fun _ e => e) h1, h2, h3⟩
theorem Sta.unhold {C : Ct} {env : Env} {w : Ds} {σ : L2.St} {D H : Hp} {fx : List Addr} {p : Addr × Addr × Addr} (S : Sta (C.hold p) env w σ D H fx) (n : env.all noXS = true) : Sta C env w σ D H fx := by
  obtain ⟨fp, h1, h2, h3⟩ := S.sl
  exact ⟨S.up, S.d0, S.kp, S.nw, ⟨S.wd.dr, S.wd.tb, S.wd.tp⟩, fp, SlotsOk.nox (C := C.hold p) (C' := C) ⟨rfl, rfl, rfl, rfl⟩ n h1, h2, h3⟩
/-- .. where what is in the slots no more matters -/
theorem SlotsOk.gone {C C' : Ct} {D H : Hp} : ∀ {ss : List Sl} {σ : L2.St} {fp : List Addr}, SlotsOk C D H ss σ fp → SlotsOk C' D H (List.replicate ss.length .un) σ []
  | [], [], _, _ => rfl
  | _ :: ss, _ :: xs, _, ⟨_, _, _, _, r⟩ => ⟨[], [], rfl, rfl, r.gone⟩
  | [], _ :: _, _, s => s.elim
  | _ :: _, [], _, s => s.elim
theorem Sta.gone {C : Ct} {env : Env} {w : Ds} {σ : L2.St} {D H : Hp} {fx : List Addr} {p : Addr × Addr × Addr} (S : Sta (C.hold p) env w σ D H fx) : Sta C (List.replicate env.length .un) w σ D H [] := by
  obtain ⟨fp, h1, h2, h3⟩ := S.sl
  exact ⟨S.up, S.d0, S.kp, S.nw, ⟨S.wd.dr, S.wd.tb, S.wd.tp⟩, [], h1.gone, List.nodup_nil, fun q hq => nomatch hq⟩
/-! ### the clauses -/
abbrev Cl : Type := (Str → Option Bool) × Nat × GS
/-- a suite's end: its name goes -/
def gEnd (i : Nat) : OutS → OutS
  | .nx e w => if (e.set i .un).all noXS = true then .nx (e.set i .un) w else .bad
  | .bk e w => if (e.set i .un).all noXS = true then .bk (e.set i .un) w else .bad
  | .ct e w => if (e.set i .un).all noXS = true then .ct (e.set i .un) w else .bad
  | .ret d w => if noX d = true then .ret d w else .bad
  | _ => .bad
def gCls : List Cl → Str → List (Str × Dt) → GS
  | [], c, fs => fun env w => .exc c fs env w
  | x :: r, c, fs => fun env w => match x.1 c with
    | some true => if x.2.1 < env.length then gEnd x.2.1 (x.2.2 (env.set x.2.1 (.dat (.exn c fs))) w) else .bad
    | some false => gCls r c fs env w
    | none => .bad
def Fc.suite (F : Fc) (p : Addr × Addr × Addr) : Fc := { F with calm := false, xa := some p }
inductive DCl (F : Fc) : List ExceptHandler → List Cl → Prop
  | nil : DCl F [] []
  | cons {x n : Str} {Cx : Addr} {i : Nat} {sub : Str → Option Bool} {b₀ : Stmt} {suite : List Stmt} {np pos' : Pos} {hds : List ExceptHandler} {cl : List Cl} {gs : GS} (hi : F.N[i]? = some n) (hln : F.sc.names.lookup n = some .local) (hg : F.sc.names.lookup x = some .globalImplicit)
      (hdb : (x == ("__debug__" : Str)) = false) (hm : F.mg x = some (.ref Cx)) (hs : ∀ c Ca b, F.cls c = some Ca → sub c = some b → PySem.W.exmOne F.K (.ref Ca) (.ref Cx) = some b) (h : ∀ p, DB (F.suite p) (b₀ :: suite) gs) (r : DCl F hds cl) :
      DCl F (.ExceptHandler (some (.Name x np)) (some n) (b₀ :: suite) pos' :: hds) ((sub, i, gs) :: cl)
section
variable {F : Fc}
theorem On.suite {X : Cx} (O : On F X) {a Ca dd : Addr} {oe : Obj} {pn : List (Addr × Obj)} (hz : Zc (.ref Ca) (some dd) oe) (hf : ∃ vs, oe.data = .fields vs) : On (F.suite (a, Ca, dd)) (X.suite a ((a, oe) :: pn)) :=
  ⟨O.prog, O.w, O.K, O.mg, O.base, O.N, O.sc, ⟨O.room.dp, O.room.un⟩, fun h => Bool.noConfusion h, fun h => Bool.noConfusion h, O.fn, O.cd, O.stk, fun _ p h => by (cases h; exact ⟨X, oe, pn, rfl, hz, hf⟩), O.fnb⟩
theorem end_post {C : Ct} {p : Addr × Addr × Addr} {i : Nat} {W : WX} {D : Ends} {o : OutS} (h : PostS C W (gEnd i o) D) :
    PostS (C.hold p) W0 o { nx := fun σ' H' => D.nx (σ'.set i none) H', rt := D.rt, bk := fun σ' H' => D.bk (σ'.set i none) H', ct := fun σ' H' => D.ct (σ'.set i none) H' } := by
  have wipeS : ∀ {e : Env} {w : Ds} {σ : L2.St} {D' H' : Hp}, Sta (C.hold p) e w σ D' H' [] → Sta (C.hold p) (e.set i .un) w (σ.set i none) D' H' [] := fun {e w σ D' H'} S => by
    by_cases hi : i < e.length
    · exact S.set (s := .un) rfl hi
    · rw [List.set_eq_of_length_le (by omega), List.set_eq_of_length_le (by rw [← S.len]; omega)]
      exact S
  cases o with
  | nx e w =>
    have h' : PostS C W (if (e.set i .un).all noXS = true then .nx (e.set i .un) w else .bad) D := h
    by_cases n : (e.set i .un).all noXS = true
    · rw [if_pos n] at h'; exact fun σ D' H' S => h' _ D' H' ((wipeS S).unhold n)
    · rw [if_neg n] at h'; exact h'.elim
  | bk e w =>
    have h' : PostS C W (if (e.set i .un).all noXS = true then .bk (e.set i .un) w else .bad) D := h
    by_cases n : (e.set i .un).all noXS = true
    · rw [if_pos n] at h'; exact fun σ D' H' S => h' _ D' H' ((wipeS S).unhold n)
    · rw [if_neg n] at h'; exact h'.elim
  | ct e w =>
    have h' : PostS C W (if (e.set i .un).all noXS = true then .ct (e.set i .un) w else .bad) D := h
    by_cases n : (e.set i .un).all noXS = true
    · rw [if_pos n] at h'; exact fun σ D' H' S => h' _ D' H' ((wipeS S).unhold n)
    · rw [if_neg n] at h'; exact h'.elim
  | ret d w =>
    have h' : PostS C W (if noX d = true then .ret d w else .bad) D := h
    by_cases n : noX d = true
    · rw [if_pos n] at h'; exact fun e σ v D' H' S r => h' _ σ v D' H' S.gone (Rp.nox (k := (C.hold p).k) (k' := C.k) ⟨rfl, rfl, rfl, rfl⟩ n r)
    · rw [if_neg n] at h'; exact h'.elim
  | rtf o w => exact h.elim
  | exc c fs e w => exact h.elim
  | bad => exact h.elim
theorem DCl.ok {hds : List ExceptHandler} {cl : List Cl} (h : DCl F hds cl) : ∃ l, (∀ X, On F X → Clauses X hds l) ∧ ∀ C W D c fs e w Ca d σ D' H', Kin F C → F.xa = none → Sta C e w σ D' H' [] → ExcAt C D' H' c fs Ca d →
    PostS C W (gCls cl c fs e w) D → wClauses F.K W D l (.ref Ca) (some d) σ H' := by
  induction h with
  | nil => exact ⟨[], fun X O => .nil, fun C W D c fs e w Ca d σ D' H' K hx S x p => p σ Ca d D' H' S x⟩
  | @cons x n Cx i sub b₀ suite np pos' hds cl gs hi hln hg hdb hm hs h r ih =>
    obtain ⟨l, l1, l2⟩ := ih
    refine ⟨(.ref Cx, i, fun a cls d => match cls, d with
      | .ref Ca, some dd => (h (a, Ca, dd)).ex.choose W0
      | _, _ => fun _ _ _ => False) :: l, fun X O => .cons (by rw [O.N]; exact hi) (by show X.env.scope.names.lookup n = _; rw [O.sc]; exact hln) ⟨by show X.env.scope.names.lookup x = _; rw [O.sc]; exact hg, hdb, .inl (by rw [O.mg]; exact hm)⟩ (fun a oe cls d pn hz hf => ?_) (l1 X O), fun C W D c fs e w Ca d σ D' H' K hx S x p => ?_⟩
    · cases cls with
      | ref Ca =>
        cases d with
        | some dd => exact (h (a, Ca, dd)).ex.choose_spec.1 _ W0 (O.suite hz hf) ⟨takes0, PassesOwn.never⟩
        | none => exact ⟨fun _ _ _ _ _ _ z => z.elim⟩
      | _ => exact ⟨fun _ _ _ _ _ _ z => z.elim⟩
    · unfold gCls at p
      simp only at p
      have hc : F.cls c = some Ca := by rw [← K.cls]; exact x.1
      cases e1 : sub c with
      | none => rw [e1] at p; exact p.elim
      | some b =>
        refine ⟨b, hs c Ca b hc e1, fun hb a ha => ?_, fun hb => ?_⟩
        · subst hb
          rw [e1] at p
          simp only at p
          by_cases hl : i < e.length
          · rw [if_pos hl] at p
            have S1 := S.hold (K.xa.trans hx) (a, Ca, d)
            obtain ⟨cc, vs, hd, eq, rr⟩ := x
            have S2 : Sta (C.hold (a, Ca, d)) (e.set i (.dat (.exn c fs))) w (σ.set i (some (.ref a))) D' H' [] := S1.setD (.exn rfl cc hd eq (RpL.kp (k := C.k) (k' := (C.hold (a, Ca, d)).k) ⟨rfl, rfl, fun _ z => z, fun q z => by rw [K.xa.trans hx] at z; cases z⟩ rr)) hl
            exact (h (a, Ca, d)).ex.choose_spec.2 W0 (C.hold (a, Ca, d)) _ w _ D' H' _ ⟨K.K, K.cls, K.tb, rfl⟩ S2 (end_post p)
          · rw [if_neg hl] at p; exact p.elim
        · subst hb
          rw [e1] at p
          exact l2 C W D c fs e w Ca d σ D' H' K hx S x p
end
end Dn
end
section
/-! In an except suite: e.f, isinstance(e, C). -/
namespace Dn
open PySem L2 PySem.Spec
end Dn
end
section
/-! {"a": "b", ..}[x]; defs with defaults. -/
namespace Dn
open PySem L2 PySem.Spec
/-! ### a display of texts, looked up -/
/-! ### defs with defaults -/
theorem fkD_of {B : Bs} {x qual : Str} {params : Arguments} {body : List Stmt} {scope : Scope} {dvs : List V} {f : Addr} {fd : FuncData} {ps : List Str} {m : Mf} {j : Nat} (na i : Nat) (dds : List Dt) (Fu : FunD B.K x qual params body scope dvs [] f fd) (hm : B.mg x = some (.ref f))
    (fn : FnOk B.P B.w B.K B.mg B.base (L2.CX B.P B.w) j f fd ps (spM B.K B.cls B.tb ps.length m)) (hd : dvs ≠ []) (hn : na + (dvs.length - i) = ps.length) (hl : ps.length = na + dds.length) (hr : ∀ (k : Kp) (D : Hp), k.K = B.K → k.cls = B.cls → RpL k D (dvs.drop i) dds)
    (h : ∀ (T : Addr) (kV doc pm : Value) (an : Option Addr) (cdv ct : Value) (us its : List Value), us.length = na → its.length = dvs.length →
      ∃ k, bindArgs (PySem.W.fnOf x qual params body scope (.ref T) kV doc pm an cdv ct) ⟨us, []⟩ = seqItems? (.ref T) >>= k ∧ k (some its.toArray) = pure (ps.zip (us ++ its.drop i))) : FkA B j x na dds m := by
  obtain ⟨ds, h1, h2⟩ := Fu.binds1 na i hd hn h
  exact ⟨f, fd, ps, dvs.drop i, ds, hm, Fu.kp, fn, h2, h1, hl, hr⟩
/-! ### classes -/
def inCls (s : Stmt) (i : Nat) : Stmt := match s with
  | .ClassDef _ _ _ b _ _ _ _ _ _ _ => b.getD i (.Pass ⟨0, 0, 0, 0⟩)
  | _ => .Pass ⟨0, 0, 0, 0⟩
def clsOf (K : PySem.W.Frag) (ns : List Str) : Str → Option Addr := fun c => if c ∈ ns then some (He.ga K c) else none
theorem clsOf_some {K : PySem.W.Frag} {ns : List Str} {c : Str} {C : Addr} (h : clsOf K ns c = some C) : c ∈ ns ∧ C = He.ga K c := by
  unfold clsOf at h
  split at h
  · rename_i m; cases h; exact ⟨m, rfl⟩
  · cases h
theorem clsOf_mem {K : PySem.W.Frag} {ns : List Str} {c : Str} (h : c ∈ ns) : clsOf K ns c = some (He.ga K c) := if_pos h
end Dn
end
section
/-! The names of exception classes. -/
namespace Dn
open PySem L2 PySem.Spec
section
variable {K : PySem.W.Frag} {ns : List Str} {cls : Str → Option Addr}
/-- a class that is raised, its __init__ at f -/
def rsChk (K : PySem.W.Frag) (x : Str) (fs : List Str) : Bool := oexB K (He.ga K x) && (decide (PySem.W.findIn K (.ref (He.ga K x)) "__init__" = some (some (.ref (He.fAd K (x, some "__init__"))))) && (decide (PySem.W.typeIn K (.ref (He.fAd K (x, some "__init__"))) = some (.type "function")) &&
  fs.all fun g => decide (PySem.W.findIn K (.ref (He.ga K x)) g = some none)))
theorem exk_of {B : Bs} {x f c : Str} {n j : Nat} {l : List (Str × Nat)} {fd : FuncData} {ps : List Str} (hm : B.mg x = some (.ref (He.ga B.K x))) (hc : B.cls = clsOf B.K ns) (hx : x ∈ ns) (h : rsChk B.K x (f :: l.map (·.1)) = true)
    (F1 : FnOk B.P B.w B.K B.mg B.base (L2.CX B.P B.w) j (He.fAd B.K (x, some "__init__")) fd ps (spX B.K (f :: l.map (·.1)) n (fun us => putV us l [(f, .str c)]))) (hb : Binds B.K fd ps []) : ExK B j x n l f c := by
  unfold rsChk at h
  simp only [Bool.and_eq_true, decide_eq_true_eq, List.all_eq_true] at h
  obtain ⟨h1, h2, h3, h4⟩ := h
  exact ⟨_, _, fd, ps, hm, by rw [hc]; exact clsOf_mem hx, oexB_ok h1, h2, h3, h4, F1, hb⟩
end
/-- all parameters given, though some have defaults -/
theorem binds_full {K : PySem.W.Frag} {x qual : Str} {params : Arguments} {body : List Stmt} {scope : Scope} {dvs : List V} {f : Addr} {fd : FuncData} {ps : List Str} (Fu : FunD K x qual params body scope dvs [] f fd) (hd : dvs ≠ [])
    (h : ∀ (T : Addr) (kV doc pm : Value) (an : Option Addr) (cdv ct : Value) (us its : List Value), us.length = ps.length → its.length = dvs.length →
      ∃ k, bindArgs (PySem.W.fnOf x qual params body scope (.ref T) kV doc pm an cdv ct) ⟨us, []⟩ = seqItems? (.ref T) >>= k ∧ k (some its.toArray) = pure (ps.zip (us ++ its.drop dvs.length))) : Binds K fd ps [] := by
  obtain ⟨ds, h1, h2⟩ := Fu.binds1 ps.length dvs.length hd (by simp) h
  rw [List.drop_length] at h1
  cases h1
  exact h2
def veB (K : PySem.W.Frag) : Bool := match PySem.W.findCls K (.type "ValueError") (.type "type") "__init__" with
  | some (.val (.builtin n)) => decide (n = "ValueError.__init__")
  | _ => false
theorem veB_ok {K : PySem.W.Frag} (h : veB K = true) : PySem.W.findCls K (.type "ValueError") (.type "type") "__init__" = some (.val (.builtin "ValueError.__init__")) := by
  unfold veB at h
  split at h
  · rename_i n e
    rw [e, of_decide_eq_true h]
  · cases h
/-! ### the head's look: what the names reach in n steps, and the interpreter's own statics -/
def asY (g : Addr → Option Obj) (n : Nat) : List Addr := He.asD g n ++ [cStatics]
def obsY (n : Nat) (fa : List He.Fa) (fn : List He.DefD) (ts : List He.Tab) (tf : List He.Defn) (ex : PySem.W.Frag → Bool) (g : Addr → Option Obj) : He.AlX := (He.obsT fa fn ts (He.frT g (asY g n)), ex (He.frT g (asY g n)) && He.tabsB g tf (He.frT g (asY g n)))
theorem saysY {as : List Addr} {fa : List He.Fa} {fn : List He.DefD} {ts : List He.Tab} {tf : List He.Defn} {ex : PySem.W.Frag → Bool} {w : World} {h : Heap} (e1 : He.obsT fa fn ts (He.frT h.get? as) = He.valT fn ts w)
    (e2 : (ex (He.frT h.get? as) && He.tabsB h.get? tf (He.frT h.get? as)) = true) : He.SaysX fa fn ts tf ex w h (He.frT h.get? as) := by
  obtain ⟨h1, h2⟩ := Bool.and_eq_true_iff.mp e2
  have key : ∀ p ∈ tf, PySem.W.codeHdIn (He.frT h.get? as) (He.cT (He.frT h.get? as) p).1 (He.cT (He.frT h.get? as) p).2 = true ∧ ∃ o, h.get? (He.cT (He.frT h.get? as) p).2 = some o ∧ He.emptyTab o = true := fun p hp => by
    obtain ⟨h3, h4⟩ := Bool.and_eq_true_iff.mp (List.all_eq_true.mp h2 p hp)
    refine ⟨h3, ?_⟩
    cases q : h.get? (He.cT (He.frT h.get? as) p).2 with
    | none => rw [q] at h4; cases h4
    | some o => rw [q] at h4; exact ⟨o, rfl, h4⟩
  refine ⟨e1, h1, fun p hp => (key p hp).1, fun p hp => ?_, fun p hp => ?_⟩
  · obtain ⟨_, o, q, z⟩ := key p hp; exact He.frT_none q z
  · obtain ⟨_, o, q, z⟩ := key p hp; rw [q, He.emptyTab_eq z]
def hookY (n : Nat) (fa : List He.Fa) (fn : List He.DefD) (ts : List He.Tab) (tf : List He.Defn) (ex : PySem.W.Frag → Bool) : PySem.W.Hook where
  α := He.AlX
  obs := fun s => obsY n fa fn ts tf ex s.heap.get?
  val := fun w => He.valX fn ts w
  says := fun w h => ∃ K : PySem.W.Frag, K.In h ∧ He.SaysX fa fn ts tf ex w h K
  of := fun _ _ e => ⟨_, He.frT_in, saysY (congrArg (fun z : He.AlX => z.1) e) (congrArg (fun z : He.AlX => z.2) e)⟩
  keeps := fun _ _ _ ⟨K, hK, c⟩ k => ⟨K, PySem.W.Frag.In.keeps hK k, ⟨c.t, c.more, c.hd, c.out, fun p hp => k _ _ (c.empty p hp)⟩⟩
theorem obsY_eq {n : Nat} {fa : List He.Fa} {fn : List He.DefD} {ts : List He.Tab} {tf : List He.Defn} {ex : PySem.W.Frag → Bool} {g : Addr → Option Obj} {s : Shared} (h : ∀ a, g a = s.heap.get? a) : obsY n fa fn ts tf ex g = (hookY n fa fn ts tf ex).obs s := by
  have e : g = s.heap.get? := funext h
  rw [e] <;> rfl
/-! a world by the one row of its habits that the top's displays of dicts ask -/
def wRow (w : World) (b : Bool) : World := { w with params := { w.params with followText := fun r => if r = "special-get-raises" then b else w.params.followText r } }
theorem wRow_eq (w : World) : wRow w (w.params.followText "special-get-raises") = w := by
  have e : (fun r => if r = "special-get-raises" then w.params.followText "special-get-raises" else w.params.followText r) = w.params.followText := by
    funext r
    by_cases h : r = "special-get-raises"
    · rw [if_pos h, h]
    · rw [if_neg h]
  unfold wRow
  rw [e]
theorem byRow {P : World → Prop} (h : ∀ w b, P (wRow w b)) (w : World) : P w := wRow_eq w ▸ h w _
end Dn
end
section
/-! Own objects: o.f, o.m(..), C(..), an __init__. -/
namespace Dn
open PySem L2 PySem.Spec PyProof.Rows
/-! ### o.f -/
structure FldF (B : Bs) (f : Str) (cs : List Str) : Prop where
  ok : ∀ c ∈ cs, ∀ Ca, B.cls c = some Ca → Cls B.K Ca ∧ NoAttr B.K Ca f
def oFld (cs : List Str) (f : Str) : Dt → Option Dt
  | .obj c fs => if c ∈ cs then fs.lookup f else none
  | _ => none
theorem lkp_rp {k : Kp} {D : Hp} {f : Str} {d : Dt} : ∀ {vs : List (Str × V)} {fs : List (Str × Dt)}, vs.map (·.1) = fs.map (·.1) → RpL k D (vs.map (·.2)) (fs.map (·.2)) → fs.lookup f = some d → ∃ v, vs.lookup f = some v ∧ Rp k D v d
  | [], [], _, _, h => by cases h
  | (n, v) :: vs, (m, x) :: fs, e, r, h => by
    simp only [List.map_cons, List.cons.injEq] at e
    obtain ⟨e1, e2⟩ := e
    subst e1
    cases r with
    | cons r1 r2 =>
      rw [List.lookup_cons] at h ⊢
      cases z : (f == n) with
      | true => rw [z] at h; cases h; exact ⟨v, rfl, r1⟩
      | false => rw [z] at h; exact lkp_rp e2 r2 h
  | [], _ :: _, e, _, _ => by cases e
  | _ :: _, [], e, _, _ => by cases e
theorem lookup_no {f : Str} : ∀ {vs : List (Str × V)} {fs : List (Str × Dt)}, vs.map (·.1) = fs.map (·.1) → fs.lookup f = none → vs.lookup f = none
  | [], [], _, _ => rfl
  | (n, v) :: vs, (m, x) :: fs, e, h => by
    simp only [List.map_cons, List.cons.injEq] at e
    obtain ⟨e1, e2⟩ := e
    subst e1
    rw [List.lookup_cons] at h ⊢
    cases z : (f == n) with
    | true => rw [z] at h; cases h
    | false => rw [z] at h; exact lookup_no e2 h
  | [], _ :: _, e, _ => by cases e
  | _ :: _, [], e, _ => by cases e
theorem obj_rp {k : Kp} {D H : Hp} {v : V} {c : Str} {fs : List (Str × Dt)} (u : Sub D H) (r : Rp k D v (.obj c fs)) : ∃ a C dx vs, v = .ref a ∧ H a = some (.ins C dx vs) ∧ H dx = some (.own a) ∧ k.cls c = some C ∧ vs.map (·.1) = fs.map (·.1) ∧ RpL k D (vs.map (·.2)) (fs.map (·.2)) := by
  cases r with
  | obj h o cc e r => exact ⟨_, _, _, _, rfl, u _ _ h, u _ _ o, cc, e, r⟩
section
variable {F : Fc}
theorem de_fld {e : Expr} {f : Str} {pos : PySem.Pos} {g : GE} {cs : List Str} (Y : FldF F.toBs f cs) (h : DE F e g) (hb : ∀ env, attributeBase e f env (eval e env) = eval e env := by intro _; rfl) : DE F (.Attribute e f pos) (gBind1 (oFld cs f) g) := by
  obtain ⟨t, a, b⟩ := h.ex
  refine ⟨⟨fun W => tFld F.K (t W) f, fun X W O T => by rw [← O.K]; exact pe_fld (a X W O T) (hb _), fun W => ?_⟩⟩
  refine den_bind1 (r := fun x H1 Q => ∃ a C dx fs v, x = .ref a ∧ H1 a = some (.ins C dx fs) ∧ Cls F.K C ∧ NoAttr F.K C f ∧ fs.lookup f = some v ∧ Q v H1) (b W) fun k hK hc D H x d z u r ez Q q => ?_
  cases d with
  | obj c fs =>
    obtain ⟨p, C, dx, vs, rfl, h1, h2, h3, h4, h5⟩ := obj_rp u r
    unfold oFld at ez
    simp only at ez
    split at ez
    · rename_i hc'
      obtain ⟨v, l, rv⟩ := lkp_rp h4 h5 ez
      obtain ⟨y1, y2⟩ := Y.ok c hc' C (by rw [← hc]; exact h3)
      exact ⟨p, C, dx, vs, v, rfl, h1, y1, y2, l, q v D H (Ex.refl u) rv⟩
    · cases ez
  | _ => cases ez
end
/-! ### o.m(..) -/
/-- the object, of the class c, no field in the method's way -/
def oSelf (c m : Str) : Dt → Option Dt
  | .obj c' fs => if c' = c ∧ fs.lookup m = none then some (.obj c' fs) else none
  | _ => none
structure MkA (B : Bs) (j : Nat) (c m : Str) (na : Nat) (dds : List Dt) (mf : Mf) : Prop where
  ex : ∃ (Ca f : Addr) (fd : FuncData) (ps : List Str) (dvs : List V) (ds : List Value), B.cls c = some Ca ∧ Cls B.K Ca ∧ Meth B.K Ca m f ∧ FnOk B.P B.w B.K B.mg B.base (L2.CX B.P B.w) j f fd ps (spM B.K B.cls B.tb ps.length mf) ∧
    Binds B.K fd ps ds ∧ Vals dvs ds ∧ ps.length = na + dds.length ∧ ∀ (k : Kp) (D : Hp), k.K = B.K → k.cls = B.cls → RpL k D dvs dds
def tSelf (C : Addr) (m : Str) (ta : TE) (t : TA) : TA := fun σ H Q => ta σ H fun x H1 => ∃ a dx fs, x = .ref a ∧ H1 a = some (.ins C dx fs) ∧ fs.lookup m = none ∧ t σ H1 fun vs H2 => Q (x :: vs) H2
theorem den_self {F : Fc} {W : WX} {ta : TE} {t : TA} {go : GE} {ga : GA} {c m : Str} {Ca : Addr} (hc : F.cls c = some Ca) (ho : DenE F W ta go) (ha : DenL F W t ga) : DenL F W (tSelf Ca m ta t) (gCons (gBind1 (oSelf c m) go) ga) := by
  intro C env w σ D H Q K S p
  refine ho C env w σ D H _ K S ?_
  unfold gCons gBind1 at p
  cases e1 : go env w with
  | bad => rw [e1] at p; exact p.elim
  | exc c fs w1 => rw [e1] at p; exact p
  | ok a w1 =>
    rw [e1] at p
    intro x D1 H1 S1 s1 r1
    simp only [Out.bind] at p
    cases a with
    | obj c' fs =>
      unfold oSelf at p
      simp only at p
      by_cases hh : c' = c ∧ fs.lookup m = none
      · rw [if_pos hh] at p
        simp only at p
        obtain ⟨b, C', dx, vs, rfl, h1, h2, h3, h4, h5⟩ := obj_rp S1.up r1
        have : C' = Ca := by
          rw [K.cls, hh.1, hc] at h3
          exact (Option.some.inj h3).symm
        subst this
        refine ⟨b, dx, vs, rfl, h1, lookup_no h4 hh.2, ?_⟩
        refine ha C env w1 σ D1 H1 _ K S1 ?_
        cases e2 : ga env w1 with
        | bad => rw [e2] at p; exact p.elim
        | exc c fs w2 => rw [e2] at p; exact p
        | ok ds w2 =>
          rw [e2] at p
          intro vs' D2 H2 S2 s2 r2
          exact p _ D2 H2 S2 (s1.trans s2) (.cons (r1.mono s2) r2)
      · rw [if_neg hh] at p; exact p.elim
    | _ => exact p.elim
section
variable {X : Cx} {CX : CXT} {k : Nat} {f C : Addr} {fd : FuncData} {ps : List Str} {sp : Sp} {dvs : List V} {ds : List Value} {E : L2.St → XK} {x m : Str} {p pos apos : PySem.Pos} {e o : Expr} {es : List Expr} {ta : TE} {t : TA}
theorem pe_meth0SD {pl : Sem Bool} (he : PE X o ta) (c : Cls X.K C) (hm : Meth X.K C m f) (F : FnOk X.prog X.w X.K X.mg X.base CX k f fd ps sp) (hr : Room k X.A) (hb : Binds X.K fd ps ds) (hd : Vals dvs ds) (hx : ∀ σ, PassesAt CX X σ (E σ))
    (ht : eval (.Call (.Attribute o m apos) [] [] pos) X.env = (do
      let ov ← eval o X.env
      standAt apos.atName
      let (f, first) ← holding [ov] (getMethod ov m pl)
      callWith pos f first (backTo pos (starEach [] X.env)) (backToKw pos (keywordEach [] X.env))) := by rfl) :
    PE X (.Call (.Attribute o m apos) [] [] pos) (tCallSD sp dvs E (tSelf C m ta tNil)) := by
  refine ⟨fun pins s σ H Q I h => ?_⟩
  refine PySem.W.methodCall_KW (pl := pl) (thn (he.run pins s σ H _ I h) fun u s1 ⟨x, H1, I1, rx, a, dx, fs, ex, ea, l, q⟩ => ?_) ht
  subst ex
  obtain rfl : u = Value.ref a := rx
  refine getmeth_ok I1 ea c hm l ?_
  exact PySem.W.callWith_K0 (first := [.ref a]) I1.kIn hm.kp (run_fnSD (us := [.ref a]) (vs := [.ref a]) F hr hb hd (hx σ) I1 (.cons rfl .nil) q)
end
section
variable {F : Fc} {j na : Nat} {c m : Str} {dds : List Dt} {mf : Mf} {o : Expr} {pos apos : PySem.Pos} {go : GE} {ga : GA}
theorem de_meth0 (G : MkA F.toBs j c m 1 dds mf) (hj : j ≤ F.lv) (ho : DE F o go)
    (pl : PySem.Env → Sem Bool := fun env => plainOf o env)
    (ht : ∀ env, eval (.Call (.Attribute o m apos) [] [] pos) env = (do
      let ov ← eval o env
      standAt apos.atName
      let (f, first) ← holding [ov] (getMethod ov m (pl env))
      callWith pos f first (backTo pos (starEach [] env)) (backToKw pos (keywordEach [] env))) := by intro _; rfl) (hx : F.xa = none := by rfl) (hc : F.calm = true := by rfl) :
    DE F (.Call (.Attribute o m apos) [] [] pos) (gCall 1 dds mf (gCons (gBind1 (oSelf c m) go) gNil)) := by
  obtain ⟨to, o1, o2⟩ := ho.ex
  obtain ⟨Ca, f, fd, ps, dvs, ds, hcl, hC, hM, fn, hb, hd, hn, hr⟩ := G.ex
  refine ⟨⟨fun W => tCallSD (spM F.K F.cls F.tb ps.length mf) dvs (WE W) (tSelf Ca m (to W) tNil), fun X W O T => ?_, fun W => den_call hx (den_self hcl (o2 W) den_nil) hn hr⟩⟩
  refine pe_meth0SD (CX := L2.CX X.prog X.w) (f := f) (fd := fd) (ps := ps) (ds := ds) (k := j) (pl := pl X.env) (o1 X W O T) ?_ ?_ ?_ ((O.full hc).mono hj) ?_ hd (fun σ => passAt T.tk σ) (ht _)
  · rw [O.K]; exact hC
  · rw [O.K]; exact hM
  · rw [O.prog, O.w, O.K, O.mg, O.base]; exact fn
  · rw [O.K]; exact hb
end
/-! ### C(..) -/
def PostIn (C : Ct) (a : Addr) (o : Fo) (Q : VK) (E : XK) : Prop := match o with
  | .own o w => ∀ fp D' H', Ew C C.D0 C.H0 D' H' w → OwnAt C D' H' a o fp → fp.Nodup → (∀ q ∈ fp, D' q = none ∧ C.H0 q = none) → Q .non H'
  | .exc c fs w => ∀ Ca d D' H', Ew C C.D0 C.H0 D' H' w → ExcAt C D' H' c fs Ca d → E (.ref Ca) (some d) H'
  | _ => False
def spI (K : PySem.W.Frag) (cls : Str → Option Addr) (tb : List (Addr × Str)) (c : Str) (n : Nat) (m : Mf) : Sp := fun vs H Q E => vs.length = n ∧ ∃ (k : Kp) (D H0 : Hp) (a dx Ca : Addr) (us : List V) (ds : List Dt) (w : Ds),
  vs = .ref a :: us ∧ H0 a = none ∧ H0 dx = none ∧ dx ≠ a ∧ H = upd (upd H0 dx (.own a)) a (.ins Ca dx []) ∧ k.cls c = some Ca ∧ k.K = K ∧ k.cls = cls ∧ k.tb = tb ∧ k.xa = none ∧ k.sf = some a ∧ Sub D H0 ∧ RpL k D us ds ∧ WdAt k w D H0 ∧ PostIn ⟨k, H0, D⟩ a (m ds w) Q E
def runI (n : Nat) (c : Str) (g : GS) : Mf := fun ds w => match g (.own (.slf c []) :: (ds.map Sl.dat ++ List.replicate (n - (ds.length + 1)) .un)) w with
  | .nx (.own (.slf c' fs) :: _) w => if c' = c then .own (.ins c fs) w else .bad
  | .exc c fs _ w => .exc c fs w
  | _ => .bad
theorem fn_init {B : Bs} {N ps : List Str} {x qual : Str} {params : Arguments} {body : List Stmt} {scope : Scope} {dvs : List V} {kws : List (Str × V)} {f : Addr} {fd : FuncData} {g : GS} (lv : Nat) (c : Str) (Fu : FunD B.K x qual params body scope dvs kws f fd) (S : FnScope N ps scope)
    (h : DB { toBs := B, N := N, sc := scope, lv := lv, calm := true, top := true, cd := none, qual := qual ++ ".<locals>." } body g) : FnOk B.P B.w B.K B.mg B.base (L2.CX B.P B.w) (lv + 1) f fd ps (spI B.K B.cls B.tb c ps.length (runI N.length c g)) := by
  obtain ⟨oc, od, dV, kV, doc, pm, an, cdv, ct, osl, rfl, lk, hcd, _, _⟩ := Fu.ex
  refine fn_of lk hcd S (fun vs H Q E h => h.1) fun A outer s H vs Q E hr hsp => ?_
  obtain ⟨t, h1, h2⟩ := h.ex
  refine ⟨t (fun cls d _ H => E cls d H), h1 _ _ ⟨rfl, rfl, rfl, rfl, rfl, rfl, rfl, roomU_of hr, fun _ => hr.hd, fun _ => rfl, fun _ _ => rfl, fun _ q e => (nomatch e), fun _ => ⟨rfl, rfl⟩, fun _ _ h => (nomatch h), fun _ h => Bool.noConfusion h⟩ ⟨takes_of rfl rfl rfl rfl, passes_of rfl⟩, ?_⟩
  obtain ⟨hl, k, D, H0, a, dx, Ca, us, ds, w, rfl, ha0, hdx0, hne, eH, hcl, kK, kc, kt, kx, ks, up, r, wd, p⟩ := hsp
  have hHa : H a = some (.ins Ca dx []) := by rw [eH, upd_same]
  have hHd : H dx = some (.own a) := by rw [eH, upd_ne hne, upd_same]
  have upH : Sub H0 H := fun b u e => by
    rw [eH, upd_ne (ne_of_none e ha0), upd_ne (ne_of_none e hdx0)]; exact e
  have hDa : D a = none := none_of up ha0
  have hDd : D dx = none := none_of up hdx0
  have nmu : ∀ q, H0 q = none → ¬ k.mu q := fun q e z => by
    obtain ⟨u, h1, _⟩ := wd.there z
    rw [e] at h1; cases h1
  have S0 : Sta ⟨k, H0, D⟩ (.own (.slf c []) :: (ds.map Sl.dat ++ List.replicate (N.length - (ds.length + 1)) .un)) w (L2.start N (.ref a :: us)) D H [] := by
    refine ⟨up.trans upH, Sub.refl _, fun b o _ e => upH b o e, fun a e n => absurd e n, wd.move (Sub.refl _) upH (fun q m => (wd.there m).choose_spec.2) (fun b xs e => ?_), [a, dx], ?_, ?_, fun q hq => ?_⟩
    · rw [eH] at e
      by_cases z : b = a
      · rw [z, upd_same] at e; cases e
      · rw [upd_ne z] at e
        by_cases z2 : b = dx
        · rw [z2, upd_same] at e; cases e
        · rw [upd_ne z2] at e; exact wd.tp b xs e
    · unfold L2.start
      refine ⟨[a, dx], [], rfl, ⟨a, rfl, ks, Ca, dx, [], [], rfl, hHa, hHd, hcl, rfl⟩, ?_⟩
      have := slots_start (C := ⟨k, H0, D⟩) (H := H) (N.length - (ds.length + 1)) r
      rw [List.length_cons, r.length]
      exact this
    · simp [hne.symm]
    · simp only [List.nil_append, List.mem_cons, List.not_mem_nil, or_false] at hq
      rcases hq with rfl | rfl
      · exact ⟨hDa, ha0, nmu _ ha0⟩
      · exact ⟨hDd, hdx0, nmu _ hdx0⟩
  refine h2 _ ⟨k, H0, D⟩ _ w _ D H _ ⟨kK, kc, kt, kx⟩ S0 ?_
  unfold runI at p
  cases e : g (.own (.slf c []) :: (ds.map Sl.dat ++ List.replicate (N.length - (ds.length + 1)) .un)) w with
  | nx e1 w1 =>
    rw [e] at p
    intro σ D' H' S'
    cases e1 with
    | nil => exact p.elim
    | cons s0 rest =>
      cases s0 with
      | own o =>
        cases o with
        | slf c' fs =>
          simp only at p
          by_cases z : c' = c
          · subst z
            rw [if_pos rfl] at p
            obtain ⟨fp, g1, g2, g3⟩ := S'.sl
            cases σ with
            | nil => exact g1.elim
            | cons x xs =>
              obtain ⟨f1, f2, ef, ⟨q, hx, hs, hi⟩, _⟩ := g1
              have : q = a := by rw [show (⟨k, H0, D⟩ : Ct).k.sf = some a from ks] at hs; exact (Option.some.inj hs).symm
              subst this
              rw [List.nil_append] at g2
              refine p f1 D' H' S'.done hi ?_ fun b hb => ?_
              · rw [ef] at g2; exact (List.nodup_append.mp g2).1
              · have := g3 b (by rw [ef]; simp [hb])
                exact ⟨this.1, this.2.1⟩
          · rw [if_neg z] at p; exact p.elim
        | _ => exact p.elim
      | _ => exact p.elim
  | ret d w1 => rw [e] at p; exact p.elim
  | rtf o w1 => rw [e] at p; exact p.elim
  | exc c fs e1 w1 => rw [e] at p; exact fun σ Ca d D' H' S' x => p Ca d D' H' S'.done x
  | bk e1 w1 => rw [e] at p; exact p.elim
  | ct e1 w1 => rw [e] at p; exact p.elim
  | bad => rw [e] at p; exact p.elim
/-- the class c made by na values, the rest by its defaults -/
structure InA (B : Bs) (j : Nat) (c : Str) (na : Nat) (dds : List Dt) (mf : Mf) : Prop where
  ex : ∃ (Ca f : Addr) (fd : FuncData) (ps : List Str) (dvs : List V) (ds : List Value), B.mg c = some (.ref Ca) ∧ B.cls c = some Ca ∧ Mk B.K Ca f ∧ FnOk B.P B.w B.K B.mg B.base (L2.CX B.P B.w) j f fd ps (spI B.K B.cls B.tb c ps.length mf) ∧
    Binds B.K fd ps ds ∧ Vals dvs ds ∧ ps.length = 1 + (na + dds.length) ∧ ∀ (k : Kp) (D : Hp), k.K = B.K → k.cls = B.cls → RpL k D dvs dds
def tMakeSD (C : Addr) (sp : Sp) (dvs : List V) (E : L2.St → XK) (t : TA) : TE := fun σ H Q => t σ H fun vs H1 => ∀ x dx, H1 x = none → H1 dx = none → dx ≠ x →
  sp (.ref x :: (vs ++ dvs)) (upd (upd H1 dx (.own x)) x (.ins C dx [])) (fun v H2 => v = .non ∧ Q (.ref x) H2) (E σ)
section
variable {X : Cx} {CX : CXT} {k : Nat} {f C : Addr} {fd : FuncData} {ps : List Str} {sp : Sp} {dvs : List V} {ds : List Value} {E : L2.St → XK} {x m : Str} {p pos apos : PySem.Pos} {e o : Expr} {es : List Expr} {ta : TE} {t : TA}
theorem run_makeSD {pins : List (Addr × Obj)} {σ : L2.St} {H : Hp} {s : Shared} {Q : VK} {us : List Value} {vs : List V} (M : Mk X.K C f) (F : FnOk X.prog X.w X.K X.mg X.base CX k f fd ps sp) (hr : Room (k + 1) X.A) (hb : Binds X.K fd ps ds) (hd : Vals dvs ds)
    (hx : PassesAt CX X σ (E σ)) (I : Inv X pins σ H s) (r : Vals vs us)
    (h : ∀ x dx, H x = none → H dx = none → dx ≠ x → sp (.ref x :: (vs ++ dvs)) (upd (upd H dx (.own x)) x (.ins C dx [])) (fun v H2 => v = .non ∧ Q (.ref x) H2) (E σ)) :
    wpAny (model X.prog X.w) X.A (call (.ref C) us) (EP X pins σ Q) X.xe s := by
  have hq := h (s.heap.objs.size + 1) s.heap.objs.size (I.hok.fresh (Nat.le_succ _)) (I.hok.fresh (Nat.le_refl _)) (Nat.ne_of_lt (Nat.lt_succ_self _))
  have I2 := Inv.made (C := C) I
  have r2 : Vals (V.ref (s.heap.objs.size + 1) :: (vs ++ dvs)) (Value.ref (s.heap.objs.size + 1) :: (us ++ ds)) := .cons rfl (r.append hd)
  have hl : (Value.ref (s.heap.objs.size + 1) :: us ++ ds).length = ps.length := by
    have e := r2.length
    rw [F.len _ _ _ _ hq] at e
    exact e.symm
  refine wpAny_call (make_map (f := f) I.kIn M.makes M.init (beq_iff_eq.mp M.fn) (codeAny_mono (F.run _ X.stack _ _ ⟨Value.ref (s.heap.objs.size + 1) :: us, []⟩ (Value.ref (s.heap.objs.size + 1) :: (us ++ ds)) _ _ (E σ) (hr.make C us [])
    (I2.env0.make C us []) (hb _ (Value.ref (s.heap.objs.size + 1) :: us) I2.kIn hl) r2 hq) fun r s' hq' => ?_))
  cases r with
  | error e => exact hx pins _ _ e s' I2 hq'
  | ok fl =>
    cases fl with
    | ret u =>
      obtain ⟨v, H', I3, rv, ev, q3⟩ := I2.after hq'
      subst ev
      exact ⟨rv, ⟨V.ref (s.heap.objs.size + 1), H', I3, rfl, q3⟩⟩
    | next => exact False.elim hq'
    | brk => exact False.elim hq'
    | cont => exact False.elim hq'
theorem pe_makeSD (M : Mk X.K C f) (F : FnOk X.prog X.w X.K X.mg X.base CX k f fd ps sp) (hr : Room (k + 1) X.A) (hg : Gl X x) (hm : X.mg x = some (.ref C)) (hb : Binds X.K fd ps ds) (hd : Vals dvs ds) (hx : ∀ σ, PassesAt CX X σ (E σ))
    (ha : PA X (e :: es) t) (hdb : (x == ("__debug__" : Str)) = false := by decide) (he : starEach (e :: es) X.env = (false, eval e X.env) :: starEach es X.env := by rfl) (hpl : (backTo pos (starEach es X.env)).any (·.1) = false := by rfl) :
    PE X (.Call (.Name x p) (e :: es) [] pos) (tMakeSD C sp dvs E t) := by
  refine ⟨fun pins s σ H Q I h => ?_⟩
  refine wpAny_Call_Name_kw (ld_glob I hg hm ?_ hdb)
  refine PySem.W.callWith_K (h₀ := X.base) I.ok.mod.kin M.kp (thn (ha.run pos pins s σ H _ I h) fun us s1 ⟨vs, H1, I1, r, q⟩ => ⟨I1.kIn, ?_⟩) he hpl
  exact run_makeSD M F hr hb hd (hx σ) I1 r q
end
theorem KpUp.self {k : Kp} {a : Addr} : KpUp k { k with sf := some a } := ⟨rfl, rfl, fun _ e => e, fun _ e => e⟩
theorem KpUp.unself {k : Kp} {a : Addr} : KpUp { k with sf := some a } k := ⟨rfl, rfl, fun _ e => e, fun _ e => e⟩
theorem den_make {F : Fc} (hx : F.xa = none) {W : WX} {ta : TA} {ga : GA} {na n : Nat} {dds : List Dt} {dvs : List V} {m : Mf} {c : Str} {Ca : Addr} (hcl : F.cls c = some Ca) (ha : DenL F W ta ga) (hn : n = 1 + (na + dds.length)) (hd : ∀ (k : Kp) (D : Hp), k.K = F.K → k.cls = F.cls → RpL k D dvs dds) (hins : ∀ ds w o w', m ds w = .own o w' → ∃ fs, o = .ins c fs) :
    DenF F W (tMakeSD Ca (spI F.K F.cls F.tb c n m) dvs (WE W) ta) (gCallF na dds m ga) := by
  intro C env w σ D H Q K S p
  refine ha C env w σ D H _ K S ?_
  unfold gCallF at p
  cases ea : ga env w with
  | bad => rw [ea] at p; exact p.elim
  | exc c fs w1 => rw [ea] at p; exact p
  | ok ds w1 =>
    rw [ea] at p
    simp only [Out.bind] at p
    intro vs D1 H1 S1 s1 r x dx hxn hdn hne
    by_cases hl : ds.length = na
    · rw [if_pos hl] at p
      have back : ∀ {D' H' : Hp} {w' : Ds}, Ew ⟨{ C.k with sf := some x }, H1, D1⟩ D1 H1 D' H' w' → Ew C D1 H1 D' H' w' := fun x => ⟨x.sub, x.up, x.kp, x.nw, ⟨x.wd.dr, x.wd.tb, x.wd.tp⟩⟩
      refine ⟨by rw [List.length_cons, List.length_append, r.length, (hd C.k D1 K.K K.cls).length, hl, hn]; omega, { C.k with sf := some x }, D1, H1, x, dx, Ca, vs ++ dvs, ds ++ dds, w1, rfl, hxn, hdn, hne, rfl, (by show C.k.cls c = _; rw [K.cls]; exact hcl), K.K, K.cls, K.tb, K.xa.trans hx, rfl, S1.up, ?_, ⟨S1.wd.dr, S1.wd.tb, S1.wd.tp⟩, ?_⟩
      · exact (r.append (hd C.k D1 K.K K.cls)).kp KpUp.self
      cases em : m (ds ++ dds) w1 with
      | bad => rw [em] at p; exact p
      | dat d w2 => rw [em] at p; exact p.elim
      | exc c fs w2 => rw [em] at p; exact fun Ca d D' H' x xx => p Ca d D' H' (S1.ew (fun _ h => nomatch h) (back x)) ⟨xx.1, xx.2.choose, xx.2.choose_spec.1, xx.2.choose_spec.2.1, xx.2.choose_spec.2.2.kp KpUp.unself⟩
      | own o w2 =>
        rw [em] at p
        obtain ⟨fs, rfl⟩ := hins _ _ _ _ em
        exact fun fp D' H' y ow nd hq => ⟨rfl, p x fp D' H' (S1.freshW (back y) nd hq) (s1.trans y.sub) (InsAt.kp (k := { C.k with sf := some x }) (k' := C.k) KpUp.unself ow)⟩
    · rw [if_neg hl] at p; exact p.elim
theorem runI_ins {n : Nat} {c : Str} {g : GS} : ∀ ds w o w', runI n c g ds w = .own o w' → ∃ fs, o = .ins c fs := fun ds w o w' h => by
  unfold runI at h
  split at h
  · split at h
    · cases h; exact ⟨_, rfl⟩
    · cases h
  · cases h
  · cases h
section
variable {F : Fc} {j na : Nat} {c : Str} {dds : List Dt} {mf : Mf} {p pos : PySem.Pos} {ga : GA}
theorem df_make {e : Expr} {es : List Expr} (G : InA F.toBs j c na dds mf) (hj : j + 1 ≤ F.lv) (hins : ∀ ds w o w', mf ds w = .own o w' → ∃ fs, o = .ins c fs) (hg : F.sc.names.lookup c = some .globalImplicit) (h : DL F (e :: es) ga)
    (hdb : (c == ("__debug__" : Str)) = false := by decide +kernel) (he : ∀ env, starEach (e :: es) env = (false, eval e env) :: starEach es env := by intro _; rfl) (hpl : ∀ env, (backTo pos (starEach es env)).any (·.1) = false := by intro _; rfl) (hx : F.xa = none := by rfl) (hc : F.calm = true := by rfl) :
    DF F (.Call (.Name c p) (e :: es) [] pos) (gCallF na dds mf ga) := by
  obtain ⟨ta, a1, a2⟩ := h.ex
  obtain ⟨Ca, f, fd, ps, dvs, ds, hm, hcl, M, fn, hb, hd, hn, hr⟩ := G.ex
  refine ⟨⟨fun W => tMakeSD Ca (spI F.K F.cls F.tb c ps.length mf) dvs (WE W) (ta W), fun X W O T => ?_, fun W => den_make hx hcl (a2 W) hn hr hins⟩⟩
  refine pe_makeSD (CX := L2.CX X.prog X.w) (f := f) (fd := fd) (ps := ps) (ds := ds) (k := j) ?_ ?_ ((O.full hc).mono hj) ?_ ?_ ?_ hd (fun σ => passAt T.tk σ) (a1 X W O T) hdb (he _) (hpl _)
  · rw [O.K]; exact M
  · rw [O.prog, O.w, O.K, O.mg, O.base]; exact fn
  · show X.env.scope.names.lookup c = _; rw [O.sc]; exact hg
  · rw [O.mg]; exact hm
  · rw [O.K]; exact hb
end
/-! ### self.f = e -/
/-- self.f = e, f not there yet -/
def sSelfN (cs : List Str) (f : Str) (x : Fv) (env : Env) : Option Env := match env with
  | .own (.slf c fs) :: r => if c ∈ cs ∧ (fs.map (·.1)).elem f = false ∧ fs.length < 900 then some (.own (.slf c (fs ++ [(f, x)])) :: r) else none
  | _ => none
def sSelf (cs : List Str) (f : Str) (g : GE) : GS := fun env w => match g env w with
  | .ok d w1 => match sSelfN cs f (.d d) env with
    | some e => .nx e w1
    | none => .bad
  | .exc c fs w1 => .exc c fs env w1
  | .bad => .bad
def sSelfL (cs : List Str) (f : Str) (g : GF) : GS := fun env w => match g env w with
  | .ok (.lst ds) w1 => match sSelfN cs f (.l ds) env with
    | some e => .nx e w1
    | none => .bad
  | .ok _ _ => .bad
  | .exc c fs w1 => .exc c fs env w1
  | .bad => .bad
theorem putF_new {f : Str} {v : V} : ∀ {vs : List (Str × V)}, (∀ p ∈ vs, p.1 ≠ f) → putF f v vs = vs ++ [(f, v)]
  | [], _ => rfl
  | (n, x) :: r, h => by
    unfold putF
    rw [if_neg (h (n, x) List.mem_cons_self), putF_new fun p hp => h p (List.mem_cons_of_mem _ hp)]
    rfl
theorem FldsOk.names {k : Kp} {D H : Hp} : ∀ {vs : List (Str × V)} {fs : List (Str × Fv)} {fp : List Addr}, FldsOk k D H vs fs fp → vs.map (·.1) = fs.map (·.1)
  | [], [], _, _ => rfl
  | (n, v) :: vs, (m, .d x) :: fs, fp, ⟨e, r, t⟩ => by simp [e, t.names]
  | (n, v) :: vs, (m, .l ds) :: fs, fp, ⟨e, z, r, us, e1, e2, h, rr, t⟩ => by simp [e, t.names]
  | [], (_, .d _) :: _, _, h => h.elim
  | [], (_, .l _) :: _, _, h => h.elim
  | _ :: _, [], _, h => h.elim
theorem FldsOk.snocD {k : Kp} {D H : Hp} {f : Str} {v : V} {x : Dt} (hv : Rp k D v x) : ∀ {vs : List (Str × V)} {fs : List (Str × Fv)} {fp : List Addr}, FldsOk k D H vs fs fp → FldsOk k D H (vs ++ [(f, v)]) (fs ++ [(f, .d x)]) fp
  | [], [], _, h => ⟨rfl, hv, h⟩
  | (n, v) :: vs, (m, .d x) :: fs, fp, ⟨e, r, t⟩ => ⟨e, r, t.snocD hv⟩
  | (n, v) :: vs, (m, .l ds) :: fs, fp, ⟨e, z, r, us, e1, e2, h, rr, t⟩ => ⟨e, z, r, us, e1, e2, h, rr, t.snocD hv⟩
  | [], (_, .d _) :: _, _, h => h.elim
  | [], (_, .l _) :: _, _, h => h.elim
  | _ :: _, [], _, h => h.elim
theorem FldsOk.snocL {k : Kp} {D H : Hp} {f : Str} {q : Addr} {ds : List Dt} {us : List V} (hq : H q = some (.lst us)) (hr : RpL k D us ds) : ∀ {vs : List (Str × V)} {fs : List (Str × Fv)} {fp : List Addr}, FldsOk k D H vs fs fp → FldsOk k D H (vs ++ [(f, .ref q)]) (fs ++ [(f, .l ds)]) (fp ++ [q])
  | [], [], _, h => by rw [show _ = [] from h]; exact ⟨rfl, q, [], us, rfl, rfl, hq, hr, rfl⟩
  | (n, v) :: vs, (m, .d x) :: fs, fp, ⟨e, r, t⟩ => ⟨e, r, t.snocL hq hr⟩
  | (n, v) :: vs, (m, .l ds) :: fs, fp, ⟨e, z, r, us, e1, e2, h, rr, t⟩ => ⟨e, z, r ++ [q], us, by rw [e1]; rfl, e2, h, rr, t.snocL hq hr⟩
  | [], (_, .d _) :: _, _, h => h.elim
  | [], (_, .l _) :: _, _, h => h.elim
  | _ :: _, [], _, h => h.elim
section
variable {C : Ct} {w : Ds} {σ : L2.St} {D H : Hp}
/-- self's fields turned -/
theorem Sta.putS {c : Str} {fs : List (Str × Fv)} {r : Env} {fx : List Addr} (S : Sta C (.own (.slf c fs) :: r) w σ D H fx) : ∃ a Ca dx vs r0, σ[0]? = some (some (.ref a)) ∧ H a = some (.ins Ca dx vs) ∧ C.k.cls c = some Ca ∧ FldsOk C.k D H vs fs r0 ∧
    ∀ vs' fs', FldsOk C.k D H vs' fs' (r0 ++ fx) → Sta C (.own (.slf c fs') :: r) w σ D (upd H a (.ins Ca dx vs')) [] := by
  obtain ⟨fp, h1, h2, h3⟩ := S.sl
  cases σ with
  | nil => exact h1.elim
  | cons x xs =>
    obtain ⟨f1, f2, ef, ⟨a, hx, hs, Ca, dx, vs, r0, e1, ha, hd, hc, t⟩, q⟩ := h1
    refine ⟨a, Ca, dx, vs, r0, by rw [hx]; rfl, ha, hc, t, fun vs' fs' t' => ?_⟩
    have nd : (fx ++ (a :: dx :: r0 ++ f2)).Nodup := by rw [← e1, ← ef]; exact h2
    have hm : ∀ z, z ∈ fx ∨ z = a ∨ z = dx ∨ z ∈ r0 ∨ z ∈ f2 → D z = none ∧ C.H0 z = none ∧ ¬ C.k.mu z := fun z hz => h3 z (by
      rw [ef, e1]
      simp only [List.mem_append, List.mem_cons]
      rcases hz with h | h | h | h | h
      · exact .inl h
      · exact .inr (.inl (.inl h))
      · exact .inr (.inl (.inr (.inl h)))
      · exact .inr (.inl (.inr (.inr h)))
      · exact .inr (.inr h))
    have pm : (fx ++ (a :: dx :: r0 ++ f2)).Perm (a :: dx :: (r0 ++ fx) ++ f2) := by
      have h1 : (fx ++ (a :: dx :: r0 ++ f2)).Perm ((a :: dx :: r0 ++ f2) ++ fx) := List.perm_append_comm
      refine h1.trans ?_
      simp only [List.cons_append, List.append_assoc]
      exact ((List.perm_append_comm (l₁ := f2) (l₂ := fx)).append_left r0).cons dx |>.cons a
    have nd2 := pm.nodup_iff.mp nd
    rw [List.cons_append, List.nodup_cons] at nd2
    obtain ⟨na, nd3⟩ := nd2
    have ne : ∀ z, z ∈ dx :: (r0 ++ fx) ++ f2 → z ≠ a := fun z hz e => na (e ▸ hz)
    have hmu := (hm a (.inr (.inl rfl)))
    refine ⟨fun b u e => ?_, S.d0, fun b o hb e => ?_, S.nw, S.wd.put ha hmu.2.2 (fun c' q' e => by unfold LamX.CodeO at e; cases e), (a :: dx :: (r0 ++ fx)) ++ f2, ⟨_, f2, rfl, ⟨a, hx, hs, Ca, dx, vs', r0 ++ fx, rfl, upd_same, ?_, hc, ?_⟩, ?_⟩, ?_, fun z hz => hm z ?_⟩
    · rw [upd_ne fun z => by rw [z, hmu.1] at e; cases e]; exact S.up b u e
    · rw [upd_ne fun z => by rw [z, hmu.2.1] at e; cases e]; exact S.kp b o hb e
    · rw [upd_ne (ne dx (by simp))]; exact hd
    · exact t'.mono (Sub.refl _) fun z hz u e => by rw [upd_ne (ne z (by simp only [List.cons_append, List.mem_cons, List.mem_append] at hz ⊢; rcases hz with h | h; exact .inr (.inl (.inl h)); exact .inr (.inl (.inr h))))]; exact e
    · exact q.mono (Sub.refl _) fun z hz u e => by rw [upd_ne (ne z (by simp [hz]))]; exact e
    · rw [List.nil_append]
      rw [List.cons_append, List.nodup_cons]
      exact ⟨na, nd3⟩
    · rw [List.nil_append] at hz
      simp only [List.cons_append, List.mem_cons, List.mem_append] at hz
      rcases hz with h | h | (h | h) | h
      · exact .inr (.inl h)
      · exact .inr (.inr (.inl h))
      · exact .inr (.inr (.inr (.inl h)))
      · exact .inl h
      · exact .inr (.inr (.inr (.inr h)))
end
section
variable {F : Fc}
theorem selfN_some {cs : List Str} {f : Str} {x : Fv} {env e1 : Env} (h : sSelfN cs f x env = some e1) : ∃ c fs r, env = .own (.slf c fs) :: r ∧ c ∈ cs ∧ (fs.map (·.1)).elem f = false ∧ fs.length < 900 ∧ e1 = .own (.slf c (fs ++ [(f, x)])) :: r := by
  unfold sSelfN at h
  split at h
  · rename_i c fs r
    split at h
    · rename_i hh
      cases h
      exact ⟨c, fs, r, rfl, hh.1, hh.2.1, hh.2.2, rfl⟩
    · cases h
  · cases h
theorem not_elem {f : Str} {vs : List (Str × V)} (h : (vs.map (·.1)).elem f = false) : ∀ p ∈ vs, p.1 ≠ f := fun p hp e => by
  have : (vs.map (·.1)).elem f = true := List.elem_iff.mpr (List.mem_map.mpr ⟨p, hp, e⟩)
  rw [h] at this; cases this
theorem ds_self {x f : Str} {value : Expr} {p1 p2 pos : PySem.Pos} {g : GE} {cs : List Str} (hN : F.N[0]? = some x) (hv : Vis F.sc x) (Y : FldF F.toBs f cs) (h : DE F value g)
    (hd : (x == ("__debug__" : Str)) = false := by decide +kernel) (hcd : (x == ("__classdict__" : Str)) = false := by decide +kernel)
    (hs : ∀ env, swapsWith value (some (.Attribute (.Name x p1) f p2)) pos.line env = pure false := by intro _; rfl) : DS F (.Assign [.Attribute (.Name x p1) f p2] value pos) (sSelf cs f g) := by
  obtain ⟨t, a, b⟩ := h.ex
  refine ⟨⟨fun W => sFld F.K (tVar 0) (t W) f, fun X W O T => by rw [← O.K]; exact ps_fld (pe_var (by rw [O.N]; exact hN) (by rw [O.sc]; exact hv) hd hcd) (a X W O T) (hs _), fun W C env w σ D H Dn K S p => ?_⟩⟩
  refine b W C env w σ D H _ K S ?_
  unfold sSelf at p
  cases e : g env w with
  | bad => rw [e] at p; exact p
  | exc c fs w1 => rw [e] at p; exact p σ
  | ok d w1 =>
    rw [e] at p
    simp only at p
    intro y D1 H1 S1 s1 ry
    cases e2 : sSelfN cs f (.d d) env with
    | none => rw [e2] at p; exact p.elim
    | some e1 =>
      rw [e2] at p
      obtain ⟨c, fs, r, rfl, hc, hn, hl, rfl⟩ := selfN_some e2
      obtain ⟨q, Ca, dx, vs, r0, hx, hq, hcl, t0, put⟩ := S1.putS
      have nm := t0.names
      obtain ⟨y1, y2⟩ := Y.ok c hc Ca (by rw [← K.cls]; exact hcl)
      refine ⟨.ref q, hx, q, Ca, dx, vs, rfl, hq, y1, y2, ?_, ?_⟩
      · have := congrArg List.length nm
        simp only [List.length_map] at this
        omega
      · rw [putF_new (not_elem (by rw [nm]; exact hn))]
        exact p σ D1 _ (put _ _ (by rw [List.append_nil]; exact t0.snocD ry))
theorem ds_selfL {x f : Str} {value : Expr} {p1 p2 pos : PySem.Pos} {g : GF} {cs : List Str} (hN : F.N[0]? = some x) (hv : Vis F.sc x) (Y : FldF F.toBs f cs) (h : DF F value g)
    (hd : (x == ("__debug__" : Str)) = false := by decide +kernel) (hcd : (x == ("__classdict__" : Str)) = false := by decide +kernel)
    (hs : ∀ env, swapsWith value (some (.Attribute (.Name x p1) f p2)) pos.line env = pure false := by intro _; rfl) : DS F (.Assign [.Attribute (.Name x p1) f p2] value pos) (sSelfL cs f g) := by
  obtain ⟨t, a, b⟩ := h.ex
  refine ⟨⟨fun W => sFld F.K (tVar 0) (t W) f, fun X W O T => by rw [← O.K]; exact ps_fld (pe_var (by rw [O.N]; exact hN) (by rw [O.sc]; exact hv) hd hcd) (a X W O T) (hs _), fun W C env w σ D H Dn K S p => ?_⟩⟩
  refine b W C env w σ D H _ K S ?_
  unfold sSelfL at p
  cases e : g env w with
  | bad => rw [e] at p; exact p
  | exc c fs w1 => rw [e] at p; exact p σ
  | ok o w1 =>
    rw [e] at p
    cases o with
    | lst ds =>
      simp only at p
      intro z fp D1 H1 S1 s1 ow
      obtain ⟨e3, us, hz, rz⟩ := ow
      subst e3
      cases e2 : sSelfN cs f (.l ds) env with
      | none => rw [e2] at p; exact p.elim
      | some e1 =>
        rw [e2] at p
        obtain ⟨c, fs, r, rfl, hc, hn, hl, rfl⟩ := selfN_some e2
        obtain ⟨q, Ca, dx, vs, r0, hx, hq, hcl, t0, put⟩ := S1.putS
        have nm := t0.names
        obtain ⟨y1, y2⟩ := Y.ok c hc Ca (by rw [← K.cls]; exact hcl)
        refine ⟨.ref q, hx, q, Ca, dx, vs, rfl, hq, y1, y2, ?_, ?_⟩
        · have := congrArg List.length nm
          simp only [List.length_map] at this
          omega
        · rw [putF_new (not_elem (by rw [nm]; exact hn))]
          exact p σ D1 _ (put _ _ (t0.snocL hz rz))
    | _ => exact p.elim
end
end Dn
end
section
/-! len(o), bool(o), str(o), repr(o), ==, != of own objects. -/
namespace Dn
open PySem L2 PySem.Spec PyProof.Rows
/-! ### the rules -/
end Dn
end
section
/-! Own classes: what the head's facts give. -/
namespace Dn
open PySem L2 PySem.Spec PyProof.Rows
section
variable {B : Bs} {x qual : Str} {params : Arguments} {body : List Stmt} {scope : Scope} {dvs : List V} {f Ca : Addr} {fd : FuncData} {ps : List Str} {mf : Mf} {j : Nat} {c m : Str}
theorem mkF_of (hcl : B.cls c = some Ca) (hC : Cls B.K Ca) (hM : Meth B.K Ca m f) (fn : FnOk B.P B.w B.K B.mg B.base (L2.CX B.P B.w) j f fd ps (spM B.K B.cls B.tb ps.length mf)) (hb : Binds B.K fd ps []) : MkA B j c m ps.length [] mf :=
  ⟨Ca, f, fd, ps, [], [], hcl, hC, hM, fn, hb, .nil, rfl, fun _ _ _ _ => .nil⟩
theorem inF_of (na : Nat) (hm : B.mg c = some (.ref Ca)) (hcl : B.cls c = some Ca) (M : Mk B.K Ca f) (fn : FnOk B.P B.w B.K B.mg B.base (L2.CX B.P B.w) j f fd ps (spI B.K B.cls B.tb c ps.length mf)) (hb : Binds B.K fd ps []) (hl : ps.length = 1 + na) : InA B j c na [] mf :=
  ⟨Ca, f, fd, ps, [], [], hm, hcl, M, fn, hb, .nil, hl, fun _ _ _ _ => .nil⟩
end
theorem fld_of {B : Bs} {ns : List Str} {c f : Str} (hc : B.cls = clsOf B.K ns) (h1 : Cls B.K (He.ga B.K c)) (h2 : NoAttr B.K (He.ga B.K c) f) : FldF B f [c] := ⟨fun c' hc' Ca h => by
  rw [List.mem_singleton.mp hc', hc] at h
  obtain ⟨_, rfl⟩ := clsOf_some h
  exact ⟨h1, h2⟩⟩
/-! ### () as a default -/
/-! ### isinstance(x, C), C an own class -/
end Dn
end
section
/-! Dicts with tuple keys, made within a def; chains of comparisons; str of a text. -/
namespace Dn
open PySem L2 PySem.Spec PyProof.Rows
section
variable {F : Fc}
/-! ### a < b < c -/
def gChain (f1 f2 : Dt → Dt → Option Dt) (ga gb gc : GE) : GE := fun env w => (ga env w).bind fun a w1 => (gb env w1).bind fun b w2 => match f1 a b with
  | some (.bl true) => (gc env w2).bind fun c w3 => match f2 b c with
    | some r => .ok r w3
    | none => .bad
  | some (.bl false) => .ok (.bl false) w2
  | _ => .bad
theorem den_chain {W : WX} {ta tb tc : TE} {ga gb gc : GE} {r r' : R2} {f1 f2 : Dt → Dt → Option Dt} (ha : DenE F W ta ga) (hb : DenE F W tb gb) (hc : DenE F W tc gc) (h1 : ∀ k : Kp, k.K = F.K → k.cls = F.cls → Pos2 k r f1) (h2 : ∀ k : Kp, k.K = F.K → k.cls = F.cls → Pos2 k r' f2) :
    DenE F W (tChain r r' ta tb tc) (gChain f1 f2 ga gb gc) := by
  intro C env w σ D H Q K S p
  refine ha C env w σ D H _ K S ?_
  unfold gChain at p
  cases ea : ga env w with
  | bad => rw [ea] at p; exact p.elim
  | exc c fs w1 => rw [ea] at p; exact p
  | ok a w1 =>
    rw [ea] at p
    simp only [Out.bind] at p
    intro x D1 H1 S1 s1 ra
    refine hb C env w1 σ D1 H1 _ K S1 ?_
    cases eb : gb env w1 with
    | bad => rw [eb] at p; exact p.elim
    | exc c fs w2 => rw [eb] at p; exact p
    | ok b w2 =>
      rw [eb] at p
      simp only at p
      intro y D2 H2 S2 s2 rb
      cases ef : f1 a b with
      | none => rw [ef] at p; exact p.elim
      | some z =>
        rw [ef] at p
        refine h1 C.k K.K K.cls D2 H2 x y a b z S2.up (ra.mono s2) rb ef _ fun v D3 H3 x3 rv => ?_
        have S3 := S2.ex x3
        cases z with
        | bl t =>
          cases rv
          refine ⟨t, rfl, ?_⟩
          cases t with
          | false =>
            simp only at p
            rw [if_neg Bool.false_ne_true]
            exact p (.bl false) D3 H3 S3 (s1.trans (s2.trans x3.sub)) (.bl false)
          | true =>
            simp only at p
            rw [if_pos rfl]
            refine hc C env w2 σ D3 H3 _ K S3 ?_
            cases ec : gc env w2 with
            | bad => rw [ec] at p; exact p.elim
            | exc c fs w3 => rw [ec] at p; exact p
            | ok c w3 =>
              rw [ec] at p
              simp only at p
              intro u D4 H4 S4 s4 rc
              cases eg : f2 b c with
              | none => rw [eg] at p; exact p.elim
              | some r =>
                rw [eg] at p
                exact h2 C.k K.K K.cls D4 H4 y u b c r S4.up ((rb.mono x3.sub).mono s4) rc eg Q fun v D' H' x' rv => p v D' H' (S4.ex x') (s1.trans (s2.trans (x3.sub.trans (s4.trans x'.sub)))) rv
        | _ => exact p.elim
theorem de_chain {a b c : Expr} {op op' : CmpOp} {pos : PySem.Pos} {f f' : Dt → Dt → Option Dt} {ga gb gc : GE} (ho : CmK F op f) (ho' : CmK F op' f') (ha : DE F a ga) (hb : DE F b gb) (hc : DE F c gc) (hm : lastMarks [op, op'] [b, c] = false := by with_unfolding_all rfl) : DE F (.Compare a [op, op'] [b, c] pos) (gChain f f' ga gb gc) := by
  obtain ⟨r, o1, o2⟩ := ho.ex
  obtain ⟨r', o1', o2'⟩ := ho'.ex
  obtain ⟨ta, a1, a2⟩ := ha.ex
  obtain ⟨tb, b1, b2⟩ := hb.ex
  obtain ⟨tc, c1, c2⟩ := hc.ex
  exact ⟨⟨fun W => tChain r r' (ta W) (tb W) (tc W), fun X W O T => pe_chain (o1 X O) (o1' X O) (a1 X W O T) (b1 X W O T) (c1 X W O T) hm, fun W => den_chain (a2 W) (b2 W) (c2 W) o2 o2'⟩⟩
theorem dt_chain {a b c : Expr} {op op' : CmpOp} {pos : PySem.Pos} {f f' : Dt → Dt → Option Dt} {ga gb gc : GE} (ho : CmK F op f) (ho' : CmK F op' f') (ha : DE F a ga) (hb : DE F b gb) (hc : DE F c gc) (hm : lastMarks [op, op'] [b, c] = false := by with_unfolding_all rfl) : DT F (.Compare a [op, op'] [b, c] pos) (gTst (gChain f f' ga gb gc)) := by
  obtain ⟨r, o1, o2⟩ := ho.ex
  obtain ⟨r', o1', o2'⟩ := ho'.ex
  obtain ⟨ta, a1, a2⟩ := ha.ex
  obtain ⟨tb, b1, b2⟩ := hb.ex
  obtain ⟨tc, c1, c2⟩ := hc.ex
  exact ⟨⟨fun W => tTest (tChain r r' (ta W) (tb W) (tc W)), fun X W O T => pt_chain (o1 X O) (o1' X O) (a1 X W O T) (b1 X W O T) (c1 X W O T) hm, fun W => den_tst (den_chain (a2 W) (b2 W) (c2 W) o2 o2')⟩⟩
/-! ### str(a text) -/
/-! ### {} -/
def gDnew : GF := fun _ w => .ok (.dT []) w
theorem df_dnewT {pos : PySem.Pos} : DF F (.Dict [] [] pos) gDnew := by
  refine ⟨⟨fun _ => tDNewT, fun X W O T => pe_dnewT, fun W C env w σ D H Q K S p q hq => ?_⟩⟩
  exact p q [q] D _ (S.fresh (Ex.hid S.up hq) (by simp) (one_new S.up hq)) (Sub.refl _) ⟨rfl, [], upd_same, rfl, .nil⟩
end
/-! ### d.setdefault(k, v), tuple keys -/
section
variable {X : Cx} {pins : List (Addr × Obj)} {σ : L2.St} {H : Hp} {s : Shared} {a b : Addr} {r : Value} {d : V} {k : List Key} {A : Around} {E : Value → Shared → Prop}
theorem d_setdT {kvs : List (List Key × V)} {Q : Value → Shared → Prop} (hu : A.units + 1 < cLine) (I : Inv X pins σ H s) (e : H a = some (.dT kvs)) (eb : H b = some (.tup (k.map kV))) (rd : RelV d r) (hl : kvs.length < sizeLine)
    (h1 : ∀ v, valV kvs k = some v → ∀ (w' : Value) (s' : Shared), Inv X pins σ H s' → RelV v w' → Q w' s') (h2 : valV kvs k = none → ∀ (w' : Value) (s' : Shared), Inv X pins σ (upd H a (.dT (putK kvs k d))) s' → RelV d w' → Q w' s') :
    wpAny (model X.prog X.w) A (call (.builtin "dict.setdefault") [.ref a, .ref b, r]) Q E s := by
  obtain ⟨z, hd, xs, rel, dd⟩ := dt_of I.hok e
  have hz : xs.length ≤ sizeLine := by rw [← Paired.length rel]; exact z
  refine call_meetsIn PySem.F.slot_dict_setdefault dd.typeIs PySem.F.entry_dict_setdefault (PySem.F.args_dict_setdefault_3 _ _ _) (meetsH_dict_setdefault (tupleKind (mixKind X.prog X.w)) a b hd r) ⟨tupleKind_room_in1 hu, k, xs, key_of I.hok eb, dd, hz, fun p hp => ?_, fun hn h' dd' hs => ?_⟩
  · have q := rel.val k
    rw [hp] at q
    cases q0 : valV kvs k with
    | none => rw [q0] at q; exact (show False from q).elim
    | some v0 => rw [q0] at q; exact h1 v0 q0 _ _ (I.tok _) q
  · have q := rel.val k
    rw [hn] at q
    cases q0 : valV kvs k with
    | some v0 => rw [q0] at q; exact (show False from q).elim
    | none =>
      have hl2 : (putK kvs k d).length ≤ sizeLine := by have := length_putK kvs k d; omega
      obtain ⟨q, es, ep, hq, h3, h4, h5, _, h6⟩ := dd'
      refine h2 q0 _ _ (d_write (t' := s.toks + (tupleKind (mixKind X.prog X.w)).draws k) I (by rw [e]; exact True.intro) hs ⟨q, hq⟩ ⟨hl2, hd, _, (rel.put k eb rd).keeps fun c ys ec => ?_, q, es, ep, hq, h3, h4, h5, h6⟩) rd
      rw [upd_ne (ne_of ec e (fun z => nomatch z))]
      exact ec
end
theorem pe_setdT {X : Cx} {x : Str} {e f : Expr} {tk tv : TE} {p apos cpos : PySem.Pos} (i : Nat) (hu : X.A.units + 1 < cLine) (ho : PE X (.Name x p) (tVar i)) (he : PE X e tk) (hf : PE X f tv) (m : M2 X (.Name x p) "setdefault" apos e f cpos) : PE X (.Call (.Attribute (.Name x p) "setdefault" apos) [e, f] [] cpos)
    (fun σ H Q => ∃ a, σ[i]? = some (some (.ref a)) ∧ IsD H a ∧ tk σ H fun y H2 => tv σ H2 fun z H3 => ∃ (kvs : List (List Key × V)) (k : List Key) (b : Addr), H3 a = some (.dT kvs) ∧ y = .ref b ∧ H3 b = some (.tup (k.map kV)) ∧ kvs.length < sizeLine ∧
      (∀ v, valV kvs k = some v → Q v H3) ∧ (valV kvs k = none → Q z (upd H3 a (.dT (putK kvs k z))))) := by
  refine ⟨fun pins s σ H Q I h => ?_⟩
  obtain ⟨a, hx, d, q1⟩ := h
  refine wpAny_Call_method m.base m.few m.line PySem.F.plainAttrs_dict PySem.F.slot_dict_setdefault PySem.F.type_dict_setdefault (thn (ho.run pins s σ H (fun v H1 => v = .ref a ∧ H1 = H) I ⟨_, hx, rfl, rfl⟩) fun u s1 hh => ?_)
  obtain ⟨v, H1, I1, rx, rfl, rfl⟩ := hh
  obtain rfl : u = Value.ref a := rx
  obtain ⟨t1, t2, _⟩ := isD_at I1 d
  refine ⟨t1, t2, ?_⟩
  rw [m.trees]
  refine Calls.callWith_builtin rfl (Calls.evalArgs_plain (Calls.spliced_cons (thn (he.run pins s1 σ _ _ I1 q1) fun iv s2 ⟨y, H2, I2, ry, q2⟩ =>
    Calls.spliced_cons (thn (hf.run pins s2 σ H2 _ I2 q2) fun fv s3 ⟨z, H3, I3, rz, kvs, k, b, ea, ey, eb, hl, q3, q4⟩ => Calls.spliced_nil ?_))))
  subst ey
  cases (show iv = Value.ref b from ry)
  exact d_setdT hu I3 ea eb rz hl (fun v hv w' s4 I4 rw' => ⟨v, _, I4, rw', q3 v hv⟩) fun hn w' s4 I4 rw' => ⟨z, _, I4, rw', q4 hn⟩
section
variable {C : Ct} {env : Env} {w : Ds} {σ : L2.St} {D H : Hp}
theorem Sta.putT (S : Sta C env w σ D H []) {i : Nat} {ds : List (List Key × Dt)} (e : env[i]? = some (.own (.dT ds))) : ∃ p vs, σ[i]? = some (some (.ref p)) ∧ H p = some (.dT vs) ∧ Rk C.k D vs ds ∧
    ∀ vs' ds', Rk C.k D vs' ds' → Sta C (env.set i (.own (.dT ds'))) w σ D (upd H p (.dT vs')) [] := by
  obtain ⟨fp, h1, h2, h3⟩ := S.sl
  obtain ⟨p, f1, f2, f3, ef, hx, ow, hk, _⟩ := h1.own e
  obtain ⟨e2, vs, hp, r1, r2⟩ := ow
  subst e2
  have hfr := h3 p (by rw [ef]; simp)
  refine ⟨p, vs, hx, hp, ⟨r1, r2⟩, fun vs' ds' r' => ?_⟩
  have nd : ∀ q ∈ f1 ++ f3, q ≠ p := fun q hq z => by
    rw [List.nil_append, ef, List.nodup_append] at h2
    subst z
    rcases List.mem_append.mp hq with z | z
    · exact h2.2.2 q z q (by simp) rfl
    · have := (List.nodup_cons.mp h2.2.1).1
      exact this z
  refine ⟨fun a u e => ?_, S.d0, fun b u hb e => ?_, S.nw, S.wd.put hp hfr.2.2 (fun c q z => by unfold LamX.CodeO at z; cases z), fp, ?_, h2, h3⟩
  · rw [upd_ne fun z => by rw [z, hfr.1] at e; cases e]
    exact S.up a u e
  · rw [upd_ne fun z => by rw [z, hfr.2.1] at e; cases e]
    exact S.kp b u hb e
  · refine hk (.dT ds') D _ (Sub.refl _) (fun q hq u e => ?_) ⟨rfl, vs', upd_same, r'.1, r'.2⟩
    rw [upd_ne (nd q hq)]
    exact e
end
def setdG (kvs : List (List Key × Dt)) (k : List Key) (d : Dt) : List (List Key × Dt) := if (getG kvs k).isSome then kvs else putG kvs k d
def sSetd (i : Nat) (gk gv : GE) : GS := fun env w => match env[i]? with
  | some (.own (.dT kvs)) => match gk env w with
    | .ok a w1 => match gv env w1 with
      | .ok d w2 => match keyT a with
        | some k => if kvs.length < sizeLine then .nx (env.set i (.own (.dT (setdG kvs k d)))) w2 else .bad
        | none => .bad
      | .exc c fs w1 => .exc c fs env w1
      | .bad => .bad
    | .exc c fs w1 => .exc c fs env w1
    | .bad => .bad
  | _ => .bad
section
variable {F : Fc}
theorem ds_setd {x : Str} {p ap cp pos : PySem.Pos} {e f : Expr} {gk gv : GE} (i : Nat) (hN : F.N[i]? = some x) (hv : Vis F.sc x) (h : DE F e gk) (h' : DE F f gv) (hd : (x == ("__debug__" : Str)) = false := by decide +kernel) (hcd : (x == ("__classdict__" : Str)) = false := by decide +kernel)
    (hbase : ∀ env, attributeBase (.Name x p) "setdefault" env (eval (.Name x p) env) = eval (.Name x p) env := by intro _; rfl)
    (hfew : ∀ env, ((backTo cp (starEach [e, f] env)).all (fun x => !x.1) && (backToKw cp (keywordEach [] env)).all (fun x => x.1.isSome)
      && decide (([e, f] : List Expr).length + ([] : List Keyword).length + (if ([] : List Keyword).isEmpty then 0 else 1) < 30)) = true := by intro _; rfl)
    (hline : (ap.endLine == cp.line) = true := by rfl) (hs : ∀ env, backTo cp (starEach [e, f] env) = [(false, eval e env), (false, eval f env)] := by intro _; rfl)
    (hsw : ∀ env, swapsWith (.Call (.Attribute (.Name x p) "setdefault" ap) [e, f] [] cp) none pos.line env = pure false := by intro _; rfl) :
    DS F (.Expr (.Call (.Attribute (.Name x p) "setdefault" ap) [e, f] [] cp) pos) (sSetd i gk gv) := by
  obtain ⟨t, a1, a2⟩ := h.ex
  obtain ⟨t', b1, b2⟩ := h'.ex
  refine ⟨⟨fun W => tDrop fun σ H Q => ∃ a, σ[i]? = some (some (.ref a)) ∧ IsD H a ∧ t W σ H fun y H2 => t' W σ H2 fun z H3 => ∃ (kvs : List (List Key × V)) (k : List Key) (b : Addr), H3 a = some (.dT kvs) ∧ y = .ref b ∧ H3 b = some (.tup (k.map kV)) ∧ kvs.length < sizeLine ∧
      (∀ v, valV kvs k = some v → Q v H3) ∧ (valV kvs k = none → Q z (upd H3 a (.dT (putK kvs k z)))), fun X W O T => ?_, fun W C env w σ D H Dn K S q => ?_⟩⟩
  · exact ps_expr (pe_setdT i (by have := O.room.un; omega) (pe_var (by rw [O.N]; exact hN) (by rw [O.sc]; exact hv) hd hcd) (a1 X W O T) (b1 X W O T) ⟨hbase _, hfew _, hline, hs _⟩) (hsw _)
  · unfold sSetd at q
    split at q
    · rename_i kvs e
      obtain ⟨p, vs, hx, hp, rv, put⟩ := S.putT e
      refine ⟨p, hx, .inr ⟨vs, .inl hp⟩, ?_⟩
      refine a2 W C env w σ D H _ K S ?_
      cases eg : gk env w with
      | bad => rw [eg] at q; exact q.elim
      | exc c fs w1 => rw [eg] at q; exact q σ
      | ok a w1 =>
        rw [eg] at q
        simp only at q
        intro y D1 H1 S1 s1 ry
        refine b2 W C env w1 σ D1 H1 _ K S1 ?_
        cases eh : gv env w1 with
        | bad => rw [eh] at q; exact q.elim
        | exc c fs w2 => rw [eh] at q; exact q σ
        | ok d w2 =>
          rw [eh] at q
          simp only at q
          intro z D2 H2 S2 s2 rz
          obtain ⟨p', vs', hx', hp', rv', put'⟩ := S2.putT e
          rw [hx] at hx'
          cases hx'
          cases ek : keyT a with
          | none => rw [ek] at q; exact q.elim
          | some k =>
            rw [ek] at q
            simp only at q
            split at q
            · rename_i hl
              obtain ⟨b, rfl, hb⟩ := keyT_rp ry ek
              refine ⟨vs', k, b, hp', rfl, S2.up _ _ (s2 _ _ hb), by rw [rv'.length]; exact hl, fun v hv => ?_, fun hn => ?_⟩
              · have : (getG kvs k).isSome = true := by
                  rcases rv'.get k with ⟨h1, _⟩ | ⟨v, d, _, h2, _⟩
                  · rw [hv] at h1; cases h1
                  · rw [h2]; rfl
                unfold setdG at q
                rw [if_pos this] at q
                have e2 : env.set i (.own (.dT kvs)) = env := by
                  apply List.ext_getElem?
                  intro j
                  by_cases z : i = j
                  · subst z
                    have : i < env.length := by
                      cases zz : Nat.decLt i env.length with
                      | isTrue h => exact h
                      | isFalse h => rw [List.getElem?_eq_none (Nat.le_of_not_lt h)] at e; cases e
                    rw [List.getElem?_set_self this, e]
                  · rw [List.getElem?_set_ne z]
                rw [e2] at q
                exact q σ D2 H2 S2
              · have : (getG kvs k).isSome = false := by
                  rcases rv'.get k with ⟨_, h2⟩ | ⟨v, d, h1, _⟩
                  · rw [h2]; rfl
                  · rw [hn] at h1; cases h1
                unfold setdG at q
                rw [if_neg (by rw [this]; exact Bool.false_ne_true)] at q
                exact q σ D2 _ (put' _ _ (rv'.put k rz))
            · exact q.elim
    · exact q.elim
/-! ### len(d), list(d) -/
def oLenT : List Dt → Option Dt
  | [.dicT kvs] => some (.int (kvs.length : Int))
  | _ => none
theorem de_lenT {p pos : PySem.Pos} {e : Expr} {ga : GA} (hg : F.sc.names.lookup ("len" : Str) = some .globalImplicit) (hm : F.mg "len" = none) (h : DL F [e] ga) (hs : ∀ env, starEach [e] env = (false, eval e env) :: starEach [] env := by intro _; rfl) :
    DE F (.Call (.Name "len" p) [e] [] pos) (gArgs oLenT ga) :=
  de_callB (r := rLenT) (fun X O => call_len_dT) (fun k hK _ D H xs as z u r e Q q => by
    match as, r, e with
    | [.dicT kvs], .cons (.dicT (ks := ks) h1 r1 r2) .nil, e =>
      cases e
      have : kvs.length = ks.length := by
        have := congrArg List.length r1
        simp only [List.length_map] at this
        exact this.symm
      refine ⟨_, ks, rfl, u _ _ h1, ?_⟩
      rw [← this]
      exact q _ D H (Ex.refl u) (.int _)) PySem.boot_len hg hm h (by decide +kernel) (by decide +kernel) hs
def keyD : Key → Dt
  | .inl i => .int i
  | .inr x => .str x
theorem keyD_rp {k : Kp} {D : Hp} : ∀ ks : List Key, RpL k D (ks.map kV) (ks.map keyD)
  | [] => .nil
  | .inl i :: ks => .cons (.int i) (keyD_rp ks)
  | .inr x :: ks => .cons (.str x) (keyD_rp ks)
theorem keys_rp {k : Kp} {D H : Hp} (tp : ∀ a xs, H a = some (.tup xs) → D a = some (.tup xs)) : ∀ {ks : List (List Key × V)} {bs : List Addr}, IsKeys H ks bs → RpL k D (bs.map V.ref) (ks.map fun x => .tup (x.1.map keyD))
  | [], _, .nil => .nil
  | _ :: _, _, .cons h t => .cons (.tup (tp _ _ h) (keyD_rp _)) (keys_rp tp t)
def oListT : List Dt → Option Ow
  | [.dicT kvs] => some (.lst (kvs.map fun kv => .tup (kv.1.map keyD)))
  | _ => none
theorem df_listT {p pos : PySem.Pos} {e : Expr} {ga : GA} (hg : F.sc.names.lookup ("list" : Str) = some .globalImplicit) (hm : F.mg "list" = none) (h : DL F [e] ga) (hs : ∀ env, starEach [e] env = (false, eval e env) :: starEach [] env := by intro _; rfl) (hc : F.calm = true := by rfl) :
    DF F (.Call (.Name "list" p) [e] [] pos) (gArgsF oListT ga) := by
  obtain ⟨t, a, b⟩ := h.ex
  refine ⟨⟨fun W => tCB (fun xs H Q => ∃ d kvs, xs = [V.ref d] ∧ Rd H d (.dT kvs) ∧ ∀ p bs, H p = none → IsKeys H kvs bs → Q (.ref p) (upd H p (.lst (bs.map V.ref)))) (t W), fun X W O T => ?_, fun W C env w σ D H Q K S q => ?_⟩⟩
  · exact pe_callTy (call_list_dT (O.calm hc)) (by show X.env.scope.names.lookup _ = _; rw [O.sc]; exact hg) (by rw [O.mg]; exact hm) (by kernel_rfl) (a X W O T) (by decide) (by decide +kernel) (hs _)
  · refine b W C env w σ D H _ K S ?_
    unfold gArgsF at q
    cases e1 : ga env w with
    | bad => rw [e1] at q; exact q.elim
    | exc c fs w1 => rw [e1] at q; exact q
    | ok ds w1 =>
      rw [e1] at q
      simp only [Out.bind] at q
      intro vs D1 H1 S1 s1 r
      cases ez : oListT ds with
      | none => rw [ez] at q; exact q.elim
      | some z =>
        rw [ez] at q
        match ds, r, ez with
        | [.dicT kvs], .cons (.dicT (ks := ks) h1 r1 r2) .nil, ez =>
          cases ez
          refine ⟨_, ks, rfl, .inl (S1.up _ _ h1), fun p bs hp hk => ?_⟩
          refine q p [p] D1 _ (S1.fresh (Ex.hid S1.up hp) (by simp) (one_new S1.up hp)) s1 ⟨rfl, _, upd_same, ?_⟩
          have := keys_rp (k := C.k) S1.wd.tp hk
          have e2 : (kvs.map fun kv => Dt.tup (kv.1.map keyD)) = ks.map fun x => Dt.tup (x.1.map keyD) := by
            have := congrArg (List.map fun x : List Key => Dt.tup (x.map keyD)) r1
            simpa [List.map_map, Function.comp_def] using this.symm
          rw [e2]
          exact this
end
end Dn
end
section
/-! Lists of owned lists. -/
namespace Dn
open PySem L2 PySem.Spec PyProof.Rows
/-! ### the frame: an own thing stays while something else runs -/
def Ct.keep (C : Ct) (p : Addr) (o : HO) : Ct := ⟨C.k, fun b => if b = p then some o else C.H0 b, C.D0⟩
section
variable {C : Ct} {env : Env} {w : Ds} {σ : L2.St} {D H : Hp} {p : Addr} {o : HO} {fx : List Addr}
theorem Sta.keep (S : Sta C env w σ D H (p :: fx)) (hp : H p = some o) : Sta (C.keep p o) env w σ D H fx := by
  obtain ⟨fp, h1, h2, h3⟩ := S.sl
  have hpp := h3 p (by simp)
  have ne : ∀ q ∈ fx ++ fp, q ≠ p := fun q hq e => by
    rw [List.cons_append, List.nodup_cons] at h2
    exact h2.1 (e ▸ hq)
  refine ⟨S.up, S.d0, fun b u hb e => ?_, fun a e n => ?_, S.wd, fp, SlotsOk.ct (C := C) (C' := C.keep p o) rfl h1, ?_, fun q hq => ?_⟩
  · show H b = some u
    have e : (if b = p then some o else C.H0 b) = some u := e
    by_cases z : b = p
    · rw [if_pos z] at e; rw [z, hp]; exact e
    · rw [if_neg z] at e; exact S.kp b u hb e
  · show (if a = p then some o else C.H0 a) = none
    rw [if_neg fun z => n (by rw [z]; exact hpp.1)]
    exact S.nw a e n
  · rw [List.cons_append, List.nodup_cons] at h2; exact h2.2
  · have := h3 q (by rw [List.cons_append]; exact List.mem_cons_of_mem _ hq)
    refine ⟨this.1, ?_, this.2.2⟩
    show (if q = p then some o else C.H0 q) = none
    rw [if_neg (ne q hq)]
    exact this.2.1
end
/-! ### [f1, f2, ..], each a fresh list -/
/-! ### x[i].append(e) -/
theorem Kids.get {k : Kp} {D H : Hp} : ∀ {ps : List Addr} {dss : List (List Dt)} {i : Nat} {ds : List Dt}, Kids k D H ps dss → dss[i]? = some ds → ∃ p vs, ps[i]? = some p ∧ H p = some (.lst vs) ∧ RpL k D vs ds
  | [], [], i, _, _, e => by simp at e
  | p :: ps, d :: dss, 0, ds, ⟨⟨vs, h, r⟩, t⟩, e => by simp at e; subst e; exact ⟨p, vs, rfl, h, r⟩
  | p :: ps, d :: dss, i + 1, ds, ⟨_, t⟩, e => by
    simp at e
    obtain ⟨q, vs, h1, h2⟩ := t.get e
    exact ⟨q, vs, by simpa using h1, h2⟩
  | [], _ :: _, _, _, h, _ => h.elim
  | _ :: _, [], _, _, h, _ => h.elim
theorem Kids.set {k : Kp} {D H : Hp} {q : Addr} {us : List V} {es : List Dt} (r' : RpL k D us es) : ∀ {ps : List Addr} {dss : List (List Dt)} {i : Nat}, Kids k D H ps dss → ps.Nodup → ps[i]? = some q → Kids k D (upd H q (.lst us)) ps (dss.set i es)
  | [], [], i, _, _, e => by simp at e
  | p :: ps, d :: dss, 0, ⟨⟨vs, h, r⟩, t⟩, nd, e => by
    simp at e
    subst e
    exact ⟨⟨us, upd_same, r'⟩, t.mono (Sub.refl _) fun z hz u e => by rw [upd_ne fun y : z = p => (List.nodup_cons.mp nd).1 (by rw [← y]; exact hz)]; exact e⟩
  | p :: ps, d :: dss, i + 1, ⟨⟨vs, h, r⟩, t⟩, nd, e => by
    simp at e
    have hne : p ≠ q := fun z => (List.nodup_cons.mp nd).1 (z ▸ List.mem_of_getElem? e)
    exact ⟨⟨vs, by rw [upd_ne hne]; exact h, r⟩, t.set r' (List.nodup_cons.mp nd).2 e⟩
  | [], _ :: _, _, h, _, _ => h.elim
  | _ :: _, [], _, h, _, _ => h.elim
end Dn
end
section
/-! text * int, list * int, tuple * int. -/
namespace Dn
open PySem L2 PySem.Spec PyProof.Rows
theorem OpK.or {F : Fc} {op : Operator} {f g : Dt → Dt → Option Dt} (h1 : OpK F op f) (h2 : OpK F op g) : OpK F op (orO f g) := by
  obtain ⟨r, a1, a2⟩ := h1.ex
  obtain ⟨r', b1, b2⟩ := h2.ex
  refine ⟨⟨fun x y H Q => r x y H Q ∨ r' x y H Q, fun X O => (a1 X O).or (b1 X O), fun k hK hc D H x y a b z u ra rb e Q q => ?_⟩⟩
  unfold orO at e
  cases ef : f a b with
  | some z' => rw [ef] at e; cases e; exact .inl (a2 k hK hc D H x y a b _ u ra rb ef Q q)
  | none => rw [ef] at e; exact .inr (b2 k hK hc D H x y a b z u ra rb e Q q)
end Dn
end
section
/-! text[::-1] (and list[::-1]) as a value. -/
namespace Dn
open PySem L2 PySem.Spec PyProof.Rows PySem.Builtin PySem.Builtin.Str
end Dn
end
section
/-! text in (texts). -/
namespace Dn
open PySem L2 PySem.Spec PyProof.Rows
def oInT : Dt → Dt → Option Dt
  | .str x, .tup ds => (strsOf ds).map fun ys => .bl (ys.any fun y => decide (y = x))
  | _, _ => none
def oNotInT : Dt → Dt → Option Dt
  | .str x, .tup ds => (strsOf ds).map fun ys => .bl (!ys.any fun y => decide (y = x))
  | _, _ => none
theorem inV_strs (x : Str) : ∀ ys : List Str, inV (.str x) (ys.map V.str) = ys.any fun y => decide (y = x)
  | [] => rfl
  | y :: ys => by
    have ih := inV_strs x ys
    unfold inV at ih ⊢
    rw [List.map_cons, List.any_cons, List.any_cons, ih]
    congr 1
theorem flat_strs : ∀ ys : List Str, (ys.map V.str).all flatV = true
  | [] => rfl
  | y :: ys => by rw [List.map_cons, List.all_cons, flat_strs ys]; rfl
section
variable {F : Fc}
theorem c_inT : CmK F .In oInT := ⟨⟨rIn F.K false, fun X O => by rw [← O.K]; exact op_in_seq, fun k hK hc D H x y a b z u ra rb e Q q => by
  cases a <;> cases b <;> simp only [oInT] at e <;> try (cases e; done)
  rename_i s ds
  cases es : strsOf ds with
  | none => rw [es] at e; cases e
  | some ys =>
    rw [es] at e
    cases e
    cases ra
    cases rb with
    | tup h r =>
      have ev := strsOf_rp r es
      rw [ev] at h
      exact ⟨_, _, rfl, .inr (by rw [← hK]; exact tupS u h), rfl, flat_strs ys, by
        simp only [Bool.false_eq_true, if_false]
        rw [inV_strs]
        exact q _ D H (Ex.refl u) (.bl _)⟩⟩⟩
theorem c_notInT : CmK F .NotIn oNotInT := ⟨⟨rIn F.K true, fun X O => by rw [← O.K]; exact op_notIn_seq, fun k hK hc D H x y a b z u ra rb e Q q => by
  cases a <;> cases b <;> simp only [oNotInT] at e <;> try (cases e; done)
  rename_i s ds
  cases es : strsOf ds with
  | none => rw [es] at e; cases e
  | some ys =>
    rw [es] at e
    cases e
    cases ra
    cases rb with
    | tup h r =>
      have ev := strsOf_rp r es
      rw [ev] at h
      exact ⟨_, _, rfl, .inr (by rw [← hK]; exact tupS u h), rfl, flat_strs ys, by
        simp only [if_true]
        rw [inV_strs]
        exact q _ D H (Ex.refl u) (.bl _)⟩⟩⟩
end
end Dn
end
section
/-! x[a:c] = list, x an owned list; a fresh list by cases. -/
namespace L2
open PySem PySem.Spec PyProof.Rows
section
variable {X : Cx}
def gSlc (to : TE) (tl tu : TO) : TG := fun v σ H Q => to σ H fun o H1 => tl σ H1 fun oa H2 => tu σ H2 fun oc H3 => ∃ (l b : Addr) (xs ys : List V) (a c : Int), o = .ref l ∧ oa = some a ∧ oc = some c ∧ v = .ref b ∧ H3 l = some (.lst xs) ∧ H3 b = some (.lst ys) ∧ l ≠ b ∧
  0 ≤ a ∧ a ≤ c ∧ c ≤ xs.length ∧ xs.length + ys.length ≤ sizeLine ∧ Q σ (upd H3 l (.lst (xs.take a.toNat ++ ys ++ xs.drop c.toNat)))
theorem pg_slc {o : Expr} {lo hi : Option Expr} {to : TE} {tl tu : TO} {p2 pos : Pos} (ho : PE X o to) (hl : PO X lo tl) (hu : PO X hi tu) : PG X (.Subscript o (.Slice lo hi none p2) pos) (gSlc to tl tu) := by
  refine ⟨fun pins s σ H v u Q I r h => ?_⟩
  rw [assign_Subscript]
  refine wpAny_bind (wpAny_holding (thn (ho.run pins s σ H _ I h) fun ov s1 ⟨x, H1, I1, r1, q1⟩ => ?_))
  refine wpAny_bind (wpAny_holding (wpAny_Slice (thn (hl.run pins s1 σ H1 _ I1 q1) fun vl s2 ⟨l, H2, I2, pl, q2⟩ => thn (hu.run pins s2 σ H2 _ I2 q2) fun vu s3 ⟨c, H3, I3, pu, q3⟩ => ?_)))
  rw [evalPart_none]
  refine wpAny_pure ?_
  have I4 : Inv X pins σ H3 { s3 with heap := s3.heap.push { cls := .type "slice", data := .fields #[vl, vu, .none] } } := I3.kept (t' := s3.toks) fun b ob q => Heap.get?_push_of_some _ q
  obtain ⟨la, b, xs, ys, a, c', e1, e2, e3, e4, hH, hB, hne, h0, hac, hc, hz, q⟩ := q3
  subst e1 e2 e3 e4
  cases r1
  cases r
  have ra : RelV (.int a) vl := by
    cases pl
    exact ⟨_, rfl⟩
  have rc : RelV (.int c') vu := by
    cases pu
    exact ⟨_, rfl⟩
  refine wpAny_bind (wpAny_standAt (wpAny_bind (wpAny_holding (set_slice I4 hH hB hne (Heap.IsSliceOf.new ..) ra rc h0 hac hc hz fun s' I' => ?_))))
  exact wpAny_release ⟨σ, _, I', q⟩
end
end L2
namespace Dn
open PySem L2 PySem.Spec PyProof.Rows
def sSlc (i : Nat) (gl gh : GO) (g : GE) : GS := fun env w => match env[i]? with
  | some (.own (.lst ds)) => (match g env w with
    | .ok (.lst zs) w1 => (match gl env w1 with
      | .ok (some a) w2 => (match gh env w2 with
        | .ok (some c) w3 => if 0 ≤ a ∧ a ≤ c ∧ c ≤ (ds.length : Int) ∧ ds.length + zs.length ≤ sizeLine then .nx (env.set i (.own (.lst (ds.take a.toNat ++ zs ++ ds.drop c.toNat)))) w3 else .bad
        | .exc c fs w1 => .exc c fs env w1
        | _ => .bad)
      | .exc c fs w1 => .exc c fs env w1
      | _ => .bad)
    | .exc c fs w1 => .exc c fs env w1
    | _ => .bad)
  | _ => .bad
/-- an owned list is none of the tracked -/
theorem Sta.offL {C : Ct} {env : Env} {w : Ds} {σ : L2.St} {D H : Hp} (S : Sta C env w σ D H []) {i : Nat} {ds : List Dt} {p : Addr} (e : env[i]? = some (.own (.lst ds))) (hx : σ[i]? = some (some (.ref p))) : D p = none := by
  obtain ⟨fp, h1, h2, h3⟩ := S.sl
  obtain ⟨p', f1, f2, f3, ef, hx', ow, hk, _⟩ := h1.own e
  rw [hx] at hx'
  cases hx'
  obtain ⟨e2, vs, hp, r⟩ := ow
  subst e2
  exact (h3 p (by rw [ef]; simp)).1
section
variable {F : Fc}
theorem ds_slc {x : Str} {e : Expr} {lo hi : Option Expr} {p1 p2 p3 pos : PySem.Pos} {g : GE} {gl gh : GO} (i : Nat) (hN : F.N[i]? = some x) (hv : Vis F.sc x) (h : DE F e g) (hl : DO F lo gl) (hh : DO F hi gh) (hd : (x == ("__debug__" : Str)) = false := by decide +kernel) (hcd : (x == ("__classdict__" : Str)) = false := by decide +kernel)
    (hs : ∀ env, swapsWithSole [.Subscript (.Name x p1) (.Slice lo hi none p2) p3] e pos.line env = pure false := by intro _; rfl) (hw : ∀ env, swappedStores [.Subscript (.Name x p1) (.Slice lo hi none p2) p3] e env = pure none := by intro _; rfl) (h1 : ∀ env, (assignEach [.Subscript (.Name x p1) (.Slice lo hi none p2) p3] env).map (·.2) = [assign (.Subscript (.Name x p1) (.Slice lo hi none p2) p3) env] := by intro _; rfl) :
    DS F (.Assign [.Subscript (.Name x p1) (.Slice lo hi none p2) p3] e pos) (sSlc i gl gh g) := by
  obtain ⟨t, a1, a2⟩ := h.ex
  obtain ⟨tl, l1, l2⟩ := hl.ex
  obtain ⟨th, u1, u2⟩ := hh.ex
  refine ⟨⟨fun W => tAsg (t W) (gSlc (tVar i) (tl W) (th W)), fun X W O T => ps_asg (a1 X W O T) (pg_slc (pe_var (by rw [O.N]; exact hN) (by rw [O.sc]; exact hv) hd hcd) (l1 X W O T) (u1 X W O T)) (hs _) (hw _) (h1 _), fun W C env w σ D H Dn K S p => ?_⟩⟩
  refine a2 W C env w σ D H _ K S ?_
  unfold sSlc at p
  split at p
  · rename_i ds e
    cases eg : g env w with
    | bad => rw [eg] at p; exact p.elim
    | exc c fs w1 => rw [eg] at p; exact p σ
    | ok z w1 =>
      rw [eg] at p
      intro v D1 H1 S1 s1 rz
      cases z <;> simp only at p <;> try (exact p.elim)
      rename_i zs
      obtain ⟨pa, vs, hx, hp, rv, put⟩ := S1.putL e
      refine ⟨_, hx, ?_⟩
      refine l2 W C env w1 σ D1 H1 _ K S1 ?_
      cases el : gl env w1 with
      | bad => rw [el] at p; exact p.elim
      | exc c fs w2 => rw [el] at p; exact p σ
      | ok oa w2 =>
        rw [el] at p
        intro D2 H2 S2 s2
        cases oa <;> simp only at p <;> try (exact p.elim)
        rename_i a
        refine u2 W C env w2 σ D2 H2 _ K S2 ?_
        cases eh : gh env w2 with
        | bad => rw [eh] at p; exact p.elim
        | exc c fs w3 => rw [eh] at p; exact p σ
        | ok oc w3 =>
          rw [eh] at p
          intro D3 H3 S3 s3
          cases oc <;> simp only at p <;> try (exact p.elim)
          rename_i c
          split at p
          · rename_i hb
            obtain ⟨pa', vs', hx', hp', rv', put'⟩ := S3.putL e
            rw [hx] at hx'
            cases hx'
            have off := S3.offL e hx
            cases rz with
            | @lst q ws _ hq rq =>
              have hq3 : D3 q = some (.lst ws) := s3 _ _ (s2 _ _ hq)
              refine ⟨pa, q, vs', ws, a, c, rfl, rfl, rfl, rfl, hp', S3.up _ _ hq3, fun z => ?_, hb.1, hb.2.1, ?_, ?_, ?_⟩
              · rw [z, hq3] at off; cases off
              · rw [rv'.length]; exact hb.2.2.1
              · rw [rv'.length, rq.length]; exact hb.2.2.2
              · have S4 := put' (vs'.take a.toNat ++ ws ++ vs'.drop c.toNat) _ (((rv'.take a.toNat).append (rq.mono (s2.trans s3))).append (rv'.drop c.toNat))
                exact p σ D3 _ S4
          · exact p.elim
  · exact p.elim
/-- fresh things by cases -/
def gIfF (c : GT) (f g : GF) : GF := fun env w => (c env w).bind fun b w1 => if b then f env w1 else g env w1
theorem postF_sub {C : Ct} {env : Env} {σ : L2.St} {D D' : Hp} {W : WX} {o : Out Ow} {Q : VK} (s : Sub D D') (p : PostF C env σ D W o Q) : PostF C env σ D' W o Q := by
  cases o with
  | bad => exact p
  | exc c fs w2 => exact p
  | ok b w2 => exact fun v fp D2 H2 S2 s2 => p v fp D2 H2 S2 (s.trans s2)
theorem df_if {c a b : Expr} {pos : PySem.Pos} {gc : GT} {ga gb : GF} (hc : DT F c gc) (ha : DF F a ga) (hb : DF F b gb) : DF F (.IfExp c a b pos) (gIfF gc ga gb) := by
  obtain ⟨tc, c1, c2⟩ := hc.ex
  obtain ⟨ta, a1, a2⟩ := ha.ex
  obtain ⟨tb, b1, b2⟩ := hb.ex
  refine ⟨⟨fun W => tIf (tc W) (ta W) (tb W), fun X W O T => pe_ifExp (c1 X W O T) (a1 X W O T) (b1 X W O T), fun W C env w σ D H Q K S p => ?_⟩⟩
  refine c2 W C env w σ D H _ K S ?_
  unfold gIfF at p
  cases ea : gc env w with
  | bad => rw [ea] at p; exact p.elim
  | exc c fs w1 => rw [ea] at p; exact p
  | ok o w1 =>
    rw [ea] at p
    intro D' H' S' s'
    cases o with
    | true => exact iteT (a2 W C env w1 σ D' H' Q K S' (postF_sub s' p))
    | false => exact iteF (b2 W C env w1 σ D' H' Q K S' (postF_sub s' p))
end
end Dn
end
section
/-! list(x), x a list, a tuple or a text. -/
namespace Dn
open PySem L2 PySem.Spec PyProof.Rows
def rListS : List V → Hp → VK → Prop := fun xs H Q => ∃ z : Str, xs = [.str z] ∧ z.cps.size ≤ sizeLine ∧ ∀ p, H p = none → Q (.ref p) (upd H p (.lst (z.cps.toList.map fun c => V.str ⟨#[c]⟩)))
theorem call_list_sgn {X : Cx} (hc : X.calm = true) : CallR X (.type "list") rListS := by
  intro pins s σ H xs us Q I r h
  obtain ⟨z, rfl, hz, q⟩ := h
  obtain ⟨u, rfl, t, rfl⟩ := vals1 r
  refine PySem.call_list_str (I.ok.hd hc) z t (fun h' tk acc' c' hk hS hacc => ?_) hz
  refine ⟨.ref s.heap.objs.size, upd H s.heap.objs.size (.lst (z.cps.toList.map fun c => V.str ⟨#[c]⟩)), I.laid hk (Nat.le_refl _) (show ObjOk X.prog X.w _ _ _ (.lst (z.cps.toList.map fun c => V.str ⟨#[c]⟩)) from ⟨?_, acc'.toList, c', ?_, ?_⟩), rfl, q _ (I.hok.fresh (Nat.le_refl _))⟩
  · rw [List.length_map, Array.length_toList]; exact hz
  · have el : acc'.toList.length = acc'.size := by simp
    refine vals_of_at (by rw [List.length_map, el, hacc.1, Array.length_toList]) fun j x w h1 h2 => ?_
    obtain ⟨c, u', hc, rfl⟩ := hacc.2 j w (by rw [← Array.getElem?_toList]; exact h2)
    rw [List.getElem?_map, Array.getElem?_toList, hc] at h1
    cases h1
    exact ⟨u', rfl⟩
  · simpa using hS
def oListA : List Dt → Option Ow
  | [.str x] => if x.cps.size ≤ sizeLine then some (.lst (signD x)) else none
  | xs => oList xs
theorem rpl_sg {k : Kp} {D : Hp} : ∀ l : List Nat, RpL k D (l.map fun c => V.str ⟨#[c]⟩) (l.map fun c => Dt.str ⟨#[c]⟩)
  | [] => .nil
  | c :: l => .cons (.str _) (rpl_sg l)
section
variable {F : Fc}
theorem df_listA {p pos : PySem.Pos} {e : Expr} {ga : GA} (hc : F.calm = true) (hg : F.sc.names.lookup ("list" : Str) = some .globalImplicit) (hm : F.mg "list" = none) (h : DL F [e] ga) (hs : ∀ env, starEach [e] env = (false, eval e env) :: starEach [] env := by intro _; rfl) :
    DF F (.Call (.Name "list" p) [e] [] pos) (gArgsF oListA ga) :=
  df_callT (r := fun xs H Q => rListS xs H Q ∨ (∃ p ys, xs = [.ref p] ∧ (SqL F.K H p ys ∨ SqT F.K H p ys) ∧ ∀ l, H l = none → Q (.ref l) (upd H l (.lst ys)))) (fun X O => (call_list_sgn (O.calm hc)).or (by rw [← O.K]; exact call_list_of)) (fun k hK _ D H xs as z u r ee Q q => by
    match as, r, ee with
    | [.str x], .cons (.str _) .nil, ee =>
      simp only [oListA] at ee
      split at ee
      · rename_i hz
        cases ee
        exact .inl ⟨x, rfl, hz, fun l hl => q l D _ [l] (Ex.hid u hl) (own_new (rpl_sg x.cps.toList)) (by simp) (one_new u hl)⟩
      · cases ee
    | [.lst ds], .cons (.lst h1 r1) .nil, ee =>
      cases ee
      exact .inr ⟨_, _, rfl, .inl (SqL.of (u _ _ h1)), fun l hl => q l D _ [l] (Ex.hid u hl) (own_new r1) (by simp) (one_new u hl)⟩
    | [.tup ds], .cons (.tup h1 r1) .nil, ee =>
      cases ee
      rw [← hK]
      exact .inr ⟨_, _, rfl, .inr (tupS u h1), fun l hl => q l D _ [l] (Ex.hid u hl) (own_new r1) (by simp) (one_new u hl)⟩
    | [.scr ns], .cons (.scr h1) .nil, ee =>
      cases ee
      rw [← hK]
      exact .inr ⟨_, _, rfl, .inl (sqL_sub u h1), fun l hl => q l D _ [l] (Ex.hid u hl) (own_new (rpl_ints ns)) (by simp) (one_new u hl)⟩) (by decide +kernel) hg hm h (by decide +kernel) (by decide +kernel) hs
end
end Dn
end
section
/-! Calls that name parameters; parameters that must be named. -/
namespace Dn
open PySem L2 PySem.Spec PyProof.Rows
/-! ### what a call with words binds -/
end Dn
namespace Dn
open PySem L2 PySem.Spec PyProof.Rows
/-! ### values put in order: those by place, then words (given or not) -/
/-! ### a module's tuple of texts -/
end Dn
namespace Dn
open PySem L2 PySem.Spec PyProof.Rows
/-! ### x[i] = v, x an owned list -/
end Dn
namespace Dn
open PySem L2 PySem.Spec PyProof.Rows
/-! ### x += an int -/
end Dn
namespace Dn
end Dn
namespace Dn
open PySem L2 PySem.Spec PyProof.Rows
end Dn
/-! {k: v for ..} with texts or ints for keys: made, then locked for good; read by key, walked by keys. -/
namespace Dn
open PySem L2 PySem.Spec PyProof.Rows
/-! ### locked when it stands -/
end Dn
end
section
namespace Qk17
open PySem L2 Dn
def top (i : Nat) : Stmt := PySem.Challenge.pw_saidonce_k17_whole_tables_against.main.body.getD i (.Pass ⟨0, 0, 0, 0⟩)
abbrev s_is_set : Stmt := top 5
abbrev s_within : Stmt := top 10
abbrev s_is_saying : Stmt := top 25
abbrev s_Book___init__ : Stmt := inCls (top 42) 0
abbrev s_Book_sayings : Stmt := inCls (top 42) 7
abbrev s__law_cells : Stmt := top 61
abbrev s__law_crossed : Stmt := top 63
abbrev s__law_clash : Stmt := top 64
abbrev s__law_of : Stmt := top 54
abbrev s__law_cut_pair : Stmt := top 57
abbrev s__law_off : Stmt := top 55
abbrev s__law_blocks : Stmt := top 58
abbrev s__law_in : Stmt := top 56
abbrev s__law_tells : Stmt := top 59
abbrev s__law_follows : Stmt := top 60
abbrev s__law_draw : Stmt := top 46
abbrev s__law_letters : Stmt := top 47
abbrev s__law_head_of : Stmt := top 48
abbrev s__law_head : Stmt := top 49
abbrev s__law_rising : Stmt := top 62
abbrev s__law_whole : Stmt := top 44
abbrev s__law_is_table : Stmt := top 66
abbrev s__law_keeps_all : Stmt := top 65
abbrev s__law_side : Stmt := top 50
abbrev s__law_saying : Stmt := top 51
abbrev s__law_unlike : Stmt := top 52
abbrev s__law_said : Stmt := top 53
abbrev s__law_start : Stmt := top 45
abbrev s_common : Stmt := top 8
abbrev s_cut_once : Stmt := top 32
abbrev s_cutters : Stmt := top 31
abbrev s_without : Stmt := top 9
abbrev s_blocks_of : Stmt := top 33
abbrev s_looked : Stmt := top 26
abbrev s_made_of : Stmt := top 36
abbrev s_need_columns : Stmt := top 30
abbrev s_teller_of : Stmt := top 34
abbrev s_ordered : Stmt := top 6
abbrev s_union : Stmt := top 7
abbrev s_told : Stmt := top 35
abbrev s_follows : Stmt := top 37
abbrev s_against : Stmt := top 39
abbrev s_law : Stmt := top 67
/-! the head's facts -/
def dd_is_set : He.DefD := ⟨("is_set", none), "is_set", "is_set", defArgs s_is_set, defBody s_is_set, defScope s_is_set, [], []⟩
def dd_within : He.DefD := ⟨("within", none), "within", "within", defArgs s_within, defBody s_within, defScope s_within, [], []⟩
def dd_is_saying : He.DefD := ⟨("is_saying", none), "is_saying", "is_saying", defArgs s_is_saying, defBody s_is_saying, defScope s_is_saying, [], []⟩
def dd_Book___init__ : He.DefD := ⟨("Book", some "__init__"), "__init__", "Book.__init__", defArgs s_Book___init__, defBody s_Book___init__, defScope s_Book___init__, [.adr (He.dflAt ("Book", some "__init__") 0)], []⟩
def dd_Book_sayings : He.DefD := ⟨("Book", some "sayings"), "sayings", "Book.sayings", defArgs s_Book_sayings, defBody s_Book_sayings, defScope s_Book_sayings, [], []⟩
def dd__law_cells : He.DefD := ⟨("_law_cells", none), "_law_cells", "_law_cells", defArgs s__law_cells, defBody s__law_cells, defScope s__law_cells, [], []⟩
def dd__law_crossed : He.DefD := ⟨("_law_crossed", none), "_law_crossed", "_law_crossed", defArgs s__law_crossed, defBody s__law_crossed, defScope s__law_crossed, [], []⟩
def dd__law_clash : He.DefD := ⟨("_law_clash", none), "_law_clash", "_law_clash", defArgs s__law_clash, defBody s__law_clash, defScope s__law_clash, [], []⟩
def dd__law_of : He.DefD := ⟨("_law_of", none), "_law_of", "_law_of", defArgs s__law_of, defBody s__law_of, defScope s__law_of, [], []⟩
def dd__law_cut_pair : He.DefD := ⟨("_law_cut_pair", none), "_law_cut_pair", "_law_cut_pair", defArgs s__law_cut_pair, defBody s__law_cut_pair, defScope s__law_cut_pair, [], []⟩
def dd__law_off : He.DefD := ⟨("_law_off", none), "_law_off", "_law_off", defArgs s__law_off, defBody s__law_off, defScope s__law_off, [], []⟩
def dd__law_blocks : He.DefD := ⟨("_law_blocks", none), "_law_blocks", "_law_blocks", defArgs s__law_blocks, defBody s__law_blocks, defScope s__law_blocks, [], []⟩
def dd__law_in : He.DefD := ⟨("_law_in", none), "_law_in", "_law_in", defArgs s__law_in, defBody s__law_in, defScope s__law_in, [], []⟩
def dd__law_tells : He.DefD := ⟨("_law_tells", none), "_law_tells", "_law_tells", defArgs s__law_tells, defBody s__law_tells, defScope s__law_tells, [], []⟩
def dd__law_follows : He.DefD := ⟨("_law_follows", none), "_law_follows", "_law_follows", defArgs s__law_follows, defBody s__law_follows, defScope s__law_follows, [], []⟩
def dd__law_draw : He.DefD := ⟨("_law_draw", none), "_law_draw", "_law_draw", defArgs s__law_draw, defBody s__law_draw, defScope s__law_draw, [], []⟩
def dd__law_letters : He.DefD := ⟨("_law_letters", none), "_law_letters", "_law_letters", defArgs s__law_letters, defBody s__law_letters, defScope s__law_letters, [], []⟩
def dd__law_head_of : He.DefD := ⟨("_law_head_of", none), "_law_head_of", "_law_head_of", defArgs s__law_head_of, defBody s__law_head_of, defScope s__law_head_of, [], []⟩
def dd__law_head : He.DefD := ⟨("_law_head", none), "_law_head", "_law_head", defArgs s__law_head, defBody s__law_head, defScope s__law_head, [], []⟩
def dd__law_rising : He.DefD := ⟨("_law_rising", none), "_law_rising", "_law_rising", defArgs s__law_rising, defBody s__law_rising, defScope s__law_rising, [], []⟩
def dd__law_whole : He.DefD := ⟨("_law_whole", none), "_law_whole", "_law_whole", defArgs s__law_whole, defBody s__law_whole, defScope s__law_whole, [], []⟩
def dd__law_is_table : He.DefD := ⟨("_law_is_table", none), "_law_is_table", "_law_is_table", defArgs s__law_is_table, defBody s__law_is_table, defScope s__law_is_table, [], []⟩
def dd__law_keeps_all : He.DefD := ⟨("_law_keeps_all", none), "_law_keeps_all", "_law_keeps_all", defArgs s__law_keeps_all, defBody s__law_keeps_all, defScope s__law_keeps_all, [], []⟩
def dd__law_side : He.DefD := ⟨("_law_side", none), "_law_side", "_law_side", defArgs s__law_side, defBody s__law_side, defScope s__law_side, [], []⟩
def dd__law_saying : He.DefD := ⟨("_law_saying", none), "_law_saying", "_law_saying", defArgs s__law_saying, defBody s__law_saying, defScope s__law_saying, [], []⟩
def dd__law_unlike : He.DefD := ⟨("_law_unlike", none), "_law_unlike", "_law_unlike", defArgs s__law_unlike, defBody s__law_unlike, defScope s__law_unlike, [], []⟩
def dd__law_said : He.DefD := ⟨("_law_said", none), "_law_said", "_law_said", defArgs s__law_said, defBody s__law_said, defScope s__law_said, [], []⟩
def dd__law_start : He.DefD := ⟨("_law_start", none), "_law_start", "_law_start", defArgs s__law_start, defBody s__law_start, defScope s__law_start, [], []⟩
def dd_common : He.DefD := ⟨("common", none), "common", "common", defArgs s_common, defBody s_common, defScope s_common, [], []⟩
def dd_cut_once : He.DefD := ⟨("cut_once", none), "cut_once", "cut_once", defArgs s_cut_once, defBody s_cut_once, defScope s_cut_once, [], []⟩
def dd_cutters : He.DefD := ⟨("cutters", none), "cutters", "cutters", defArgs s_cutters, defBody s_cutters, defScope s_cutters, [], []⟩
def dd_without : He.DefD := ⟨("without", none), "without", "without", defArgs s_without, defBody s_without, defScope s_without, [], []⟩
def dd_blocks_of : He.DefD := ⟨("blocks_of", none), "blocks_of", "blocks_of", defArgs s_blocks_of, defBody s_blocks_of, defScope s_blocks_of, [], []⟩
def dd_looked : He.DefD := ⟨("looked", none), "looked", "looked", defArgs s_looked, defBody s_looked, defScope s_looked, [.int 0], []⟩
def dd_made_of : He.DefD := ⟨("made_of", none), "made_of", "made_of", defArgs s_made_of, defBody s_made_of, defScope s_made_of, [], []⟩
def dd_need_columns : He.DefD := ⟨("need_columns", none), "need_columns", "need_columns", defArgs s_need_columns, defBody s_need_columns, defScope s_need_columns, [], []⟩
def dd_teller_of : He.DefD := ⟨("teller_of", none), "teller_of", "teller_of", defArgs s_teller_of, defBody s_teller_of, defScope s_teller_of, [], []⟩
def dd_ordered : He.DefD := ⟨("ordered", none), "ordered", "ordered", defArgs s_ordered, defBody s_ordered, defScope s_ordered, [], []⟩
def dd_union : He.DefD := ⟨("union", none), "union", "union", defArgs s_union, defBody s_union, defScope s_union, [], []⟩
def dd_told : He.DefD := ⟨("told", none), "told", "told", defArgs s_told, defBody s_told, defScope s_told, [], []⟩
def dd_follows : He.DefD := ⟨("follows", none), "follows", "follows", defArgs s_follows, defBody s_follows, defScope s_follows, [], []⟩
def dd_against : He.DefD := ⟨("against", none), "against", "against", defArgs s_against, defBody s_against, defScope s_against, [], []⟩
def dd_law : He.DefD := ⟨("law", none), "law", "law", defArgs s_law, defBody s_law, defScope s_law, [], []⟩
abbrev sx_Refused : Stmt := inCls (top 12) 0
def ddx_Refused : He.DefD := ⟨("Refused", some "__init__"), "__init__", "Refused.__init__", defArgs sx_Refused, defBody sx_Refused, defScope sx_Refused, [.str "Refused"], []⟩
abbrev sx_Misshapen : Stmt := inCls (top 13) 0
def ddx_Misshapen : He.DefD := ⟨("Misshapen", some "__init__"), "__init__", "Misshapen.__init__", defArgs sx_Misshapen, defBody sx_Misshapen, defScope sx_Misshapen, [.str "Misshapen"], []⟩
abbrev sx_BadColumns : Stmt := inCls (top 15) 0
def ddx_BadColumns : He.DefD := ⟨("BadColumns", some "__init__"), "__init__", "BadColumns.__init__", defArgs sx_BadColumns, defBody sx_BadColumns, defScope sx_BadColumns, [], []⟩
abbrev sx_BadSaying : Stmt := inCls (top 16) 0
def ddx_BadSaying : He.DefD := ⟨("BadSaying", some "__init__"), "__init__", "BadSaying.__init__", defArgs sx_BadSaying, defBody sx_BadSaying, defScope sx_BadSaying, [], []⟩
abbrev sx_Unfit : Stmt := inCls (top 14) 0
def ddx_Unfit : He.DefD := ⟨("Unfit", some "__init__"), "__init__", "Unfit.__init__", defArgs sx_Unfit, defBody sx_Unfit, defScope sx_Unfit, [.str "Unfit"], []⟩
abbrev sx_NoColumn : Stmt := inCls (top 17) 0
def ddx_NoColumn : He.DefD := ⟨("NoColumn", some "__init__"), "__init__", "NoColumn.__init__", defArgs sx_NoColumn, defBody sx_NoColumn, defScope sx_NoColumn, [], []⟩
abbrev sx_Full : Stmt := inCls (top 19) 0
def ddx_Full : He.DefD := ⟨("Full", some "__init__"), "__init__", "Full.__init__", defArgs sx_Full, defBody sx_Full, defScope sx_Full, [], []⟩
def fn : List He.DefD := [dd_is_set, dd_within, dd_is_saying, dd_Book___init__, dd_Book_sayings, dd__law_cells, dd__law_crossed, dd__law_clash, dd__law_of, dd__law_cut_pair, dd__law_off, dd__law_blocks, dd__law_in, dd__law_tells, dd__law_follows, dd__law_draw, dd__law_letters, dd__law_head_of, dd__law_head, dd__law_rising, dd__law_whole, dd__law_is_table, dd__law_keeps_all, dd__law_side, dd__law_saying, dd__law_unlike, dd__law_said, dd__law_start, dd_common, dd_cut_once, dd_cutters, dd_without, dd_blocks_of, dd_looked, dd_made_of, dd_need_columns, dd_teller_of, dd_ordered, dd_union, dd_told, dd_follows, dd_against, dd_law, ddx_Refused, ddx_Misshapen, ddx_BadColumns, ddx_BadSaying, ddx_Unfit, ddx_NoColumn, ddx_Full]
def excs : List Str := ["Refused", "Misshapen", "Unfit", "BadColumns", "BadSaying", "NoColumn", "Known", "Full", "Book"]
def ts : List He.Tab := [(fun K => He.ga K "SIGNS", ["tells", "parts"])]
def fa : List He.Fa := [.glo "is_set", .glo "within", .glo "is_saying", .glo "_law_cells", .glo "_law_crossed", .glo "_law_clash", .glo "_law_of", .glo "_law_cut_pair", .glo "_law_off", .glo "_law_blocks", .glo "_law_in", .glo "_law_tells", .glo "_law_follows", .glo "_law_draw", .glo "_law_letters", .glo "_law_head_of", .glo "_law_head", .glo "_law_rising", .glo "_law_whole", .glo "_law_is_table", .glo "_law_keeps_all", .glo "_law_side", .glo "_law_saying", .glo "_law_unlike", .glo "_law_said", .glo "_law_start", .glo "common", .glo "cut_once", .glo "cutters", .glo "without", .glo "blocks_of", .glo "looked", .glo "made_of", .glo "need_columns", .glo "teller_of", .glo "ordered", .glo "union", .glo "told", .glo "follows", .glo "against", .glo "law", .cls "Book", .mkr "Book", .noat "Book" "letters", .noat "Book" "said", .meth "Book" "sayings", .glo "Refused", .glo "Misshapen", .glo "Unfit", .glo "BadColumns", .glo "BadSaying", .glo "NoColumn", .glo "Known", .glo "Full", .glo "Book", .glo "SIGNS", .free "ValueError", .free "abs", .free "all", .free "any", .free "bool", .free "enumerate", .free "int", .free "isinstance", .free "len", .free "list", .free "min", .free "range", .free "set", .free "sorted", .free "str", .free "tuple", .free "zip", .int "LEAST" 2, .int "MOST" 6, .str "LETTERS" "abcdefghijklmnopqrstuvwxyz", .str "TELLS" "tells", .str "PARTS" "parts", .str "NONE" "-", .int "MOST_SAYINGS" 12]
def tf : List He.Defn := []
def tbs (K : PySem.W.Frag) : List (Addr × Str) := []
def chk (K : PySem.W.Frag) : List Bool := [decide ((tbs K).map (·.1)).Nodup,
  He.valsB K (He.ga K "SIGNS") (([("tells", ">"), ("parts", ">>")] : List (Str × Str)).map fun p => (p.1, He.Dv.str p.2)),
  veB K,
  clsFnB K (He.ga K "Refused") "__init__" (He.fAd K ("Refused", some "__init__")),
  rsChk K "BadColumns" ["word"],
  clsFnB K (He.ga K "Misshapen") "__init__" (He.fAd K ("Misshapen", some "__init__")),
  rsChk K "BadSaying" ["word", "at"],
  rsChk K "NoColumn" ["word", "name"],
  clsFnB K (He.ga K "Unfit") "__init__" (He.fAd K ("Unfit", some "__init__")),
  rsChk K "Full" ["word", "most"]]
def ex (K : PySem.W.Frag) : Bool := (chk K).all id
abbrev R : PySem.W.OpenRow := PySem.W.OpenLaw.row PySem.Challenge.rw_saidonce_k17_whole_tables_against
abbrev hk : PySem.W.Hook := hookY 6 fa fn ts tf ex
def ob (s : PySem.W.SharedT) : He.AlX := obsY 6 fa fn ts tf ex (HandSHeadRun.getT s)
theorem ob_eq (s : PySem.W.SharedT) : ob s = hk.obs s.abs := obsY_eq (HandSHeadRun.getT_eq s)
def loose : List PySem.Str := (["_wall", "LEAST", "MOST", "LETTERS", "is_set", "ordered", "union", "common", "without", "within", "Refused", "Misshapen", "Unfit", "BadColumns", "BadSaying", "NoColumn", "Known", "Full", "TELLS", "PARTS"] : List PySem.Str) ++ (["SIGNS", "NONE", "is_saying", "looked", "side_text", "spelled", "need_columns", "cutters", "cut_once", "blocks_of", "teller_of", "told", "made_of", "follows", "against", "MOST_SAYINGS", "Book", "_law_whole", "_law_start", "_law_draw"] : List PySem.Str) ++ (["_law_letters", "_law_head_of", "_law_head", "_law_side", "_law_saying", "_law_unlike", "_law_said", "_law_of", "_law_off", "_law_in", "_law_cut_pair", "_law_blocks", "_law_tells", "_law_follows", "_law_cells", "_law_rising", "_law_crossed", "_law_clash", "_law_keeps_all", "_law_is_table"] : List PySem.Str)
abbrev vw : PySem.Program := PySem.W.view R.prog [67]
theorem cut3 {A B C D : Type} {o : Option A} {f : A → B} {g : A → C} {h : A → D} {b : B} {c : C} {d : D} (e1 : o.map f = some b) (e2 : o.map g = some c) (e3 : o.map h = some d) : o.map (fun s => (f s, g s, h s)) = some (b, c, d) := by
  cases o with
  | none => cases e1
  | some s => exact congrArg some (Prod.ext (Option.some.inj e1) (Prod.ext (Option.some.inj e2) (Option.some.inj e3)))
theorem cut2 {A B C : Type} {o : Option A} {f : A → B × C} {b : B × C} (e1 : o.map (fun s => (f s).1) = some b.1) (e2 : o.map (fun s => (f s).2) = some b.2) : o.map f = some b := by
  cases o with
  | none => cases e1
  | some s => exact congrArg some (Prod.ext (Option.some.inj e1) (Option.some.inj e2))
open HandSHeadRun in
theorem cutR {r : PySem.W.OpenRow} {q : PySem.Program} {n : Nat} {fa : List He.Fa} {fn : List He.DefD} {ts : List He.Tab} {tf : List He.Defn} {ex : PySem.W.Frag → Bool} {ob : PySem.W.SharedT → He.AlX} {M : Nat} {loose : List PySem.Str} {w : World}
    (h1 : ∀ os, (endF (stepQ (denQ tabQ) r.prog w) M r.prog w os).map (fun s => looksF r.prog (PySem.W.boot_heap w.params) s.abs) = some true)
    (h2 : ∀ os, (endF (stepQ (denQ tabQ) r.prog w) M r.prog w os).map (fun s => seenQ q loose (PySem.importedModules r.prog.main.body) (fun s => PySem.W.xlAt q [] s && PySem.W.recOk r.toRowW.records s) s.abs) = some (PySem.W.openGood q loose))
    (h3 : ∀ os, (endF (stepQ (denQ tabQ) r.prog w) M r.prog w os).map (fun s => (ob s).1) = some (He.valX fn ts w).1)
    (h4 : ∀ os, (endF (stepQ (denQ tabQ) r.prog w) M r.prog w os).map (fun s => (ob s).2) = some (He.valX fn ts w).2) : RunEq r q (hookY n fa fn ts tf ex) ob M loose w :=
  fun os => cut3 (h1 os) (h2 os) (cut2 (h3 os) (h4 os))
theorem run1_true (w : World) (os : PySem.OsState) : (HandSHeadRun.endF (HandSHeadRun.stepQ (HandSHeadRun.denQ HandSHeadRun.tabQ) R.prog (wRow w true)) 8000 R.prog (wRow w true) os).map (fun s => HandSHeadRun.looksF R.prog (PySem.W.boot_heap (wRow w true).params) s.abs) = some true := by kernel_rfl
theorem run2_true (w : World) (os : PySem.OsState) : (HandSHeadRun.endF (HandSHeadRun.stepQ (HandSHeadRun.denQ HandSHeadRun.tabQ) R.prog (wRow w true)) 8000 R.prog (wRow w true) os).map (fun s => HandSHeadRun.seenQ vw loose (PySem.importedModules R.prog.main.body) (fun s => PySem.W.xlAt vw [] s && PySem.W.recOk R.toRowW.records s) s.abs) = some (PySem.W.openGood vw loose) := by kernel_rfl
theorem run3_true (w : World) (os : PySem.OsState) : (HandSHeadRun.endF (HandSHeadRun.stepQ (HandSHeadRun.denQ HandSHeadRun.tabQ) R.prog (wRow w true)) 8000 R.prog (wRow w true) os).map (fun s => (ob s).1) = some (He.valX fn ts (wRow w true)).1 := by kernel_rfl
theorem run4_true (w : World) (os : PySem.OsState) : (HandSHeadRun.endF (HandSHeadRun.stepQ (HandSHeadRun.denQ HandSHeadRun.tabQ) R.prog (wRow w true)) 8000 R.prog (wRow w true) os).map (fun s => (ob s).2) = some (He.valX fn ts (wRow w true)).2 := by kernel_rfl
theorem run_true (w : World) : HandSHeadRun.RunEq R vw hk ob 8000 loose (wRow w true) := cutR (run1_true w) (run2_true w) (run3_true w) (run4_true w)
theorem run1_false (w : World) (os : PySem.OsState) : (HandSHeadRun.endF (HandSHeadRun.stepQ (HandSHeadRun.denQ HandSHeadRun.tabQ) R.prog (wRow w false)) 8000 R.prog (wRow w false) os).map (fun s => HandSHeadRun.looksF R.prog (PySem.W.boot_heap (wRow w false).params) s.abs) = some true := by kernel_rfl
theorem run2_false (w : World) (os : PySem.OsState) : (HandSHeadRun.endF (HandSHeadRun.stepQ (HandSHeadRun.denQ HandSHeadRun.tabQ) R.prog (wRow w false)) 8000 R.prog (wRow w false) os).map (fun s => HandSHeadRun.seenQ vw loose (PySem.importedModules R.prog.main.body) (fun s => PySem.W.xlAt vw [] s && PySem.W.recOk R.toRowW.records s) s.abs) = some (PySem.W.openGood vw loose) := by kernel_rfl
theorem run3_false (w : World) (os : PySem.OsState) : (HandSHeadRun.endF (HandSHeadRun.stepQ (HandSHeadRun.denQ HandSHeadRun.tabQ) R.prog (wRow w false)) 8000 R.prog (wRow w false) os).map (fun s => (ob s).1) = some (He.valX fn ts (wRow w false)).1 := by kernel_rfl
theorem run4_false (w : World) (os : PySem.OsState) : (HandSHeadRun.endF (HandSHeadRun.stepQ (HandSHeadRun.denQ HandSHeadRun.tabQ) R.prog (wRow w false)) 8000 R.prog (wRow w false) os).map (fun s => (ob s).2) = some (He.valX fn ts (wRow w false)).2 := by kernel_rfl
theorem run_false (w : World) : HandSHeadRun.RunEq R vw hk ob 8000 loose (wRow w false) := cutR (run1_false w) (run2_false w) (run3_false w) (run4_false w)
theorem run (w : World) : HandSHeadRun.RunEq R vw hk ob 8000 loose w := byRow (P := fun w => HandSHeadRun.RunEq R vw hk ob 8000 loose w) (fun w b => match b with | true => run_true w | false => run_false w) w
end Qk17
end
section
/-! Plain reckoning with mirrors: texts as rows of codes, comprehensions, loops. -/
namespace Dn
open PySem L2
/-! ### texts -/
abbrev Tx := List Nat
def sx (l : Tx) : Str := ⟨l.toArray⟩
abbrev T (l : Tx) : Dt := .str (sx l)
@[simp] theorem sx_toList (l : Tx) : (sx l).cps.toList = l := by simp [sx]
@[simp] theorem sx_length (l : Tx) : (sx l).length = l.length := by simp [sx, Str.length]
@[simp] theorem sx_size (l : Tx) : (sx l).cps.size = l.length := by simp [sx]
theorem sx_of (x : Str) : sx x.cps.toList = x := by cases x; simp [sx]
@[simp] theorem sx_append (a b : Tx) : sx a ++ sx b = sx (a ++ b) := by
  show Str.mk _ = _
  simp [sx]
theorem sx_inj {a b : Tx} (h : sx a = sx b) : a = b := by
  have := congrArg (fun z : Str => z.cps.toList) h
  simpa using this
@[simp] theorem sx_eq {a b : Tx} : sx a = sx b ↔ a = b := ⟨sx_inj, fun h => h ▸ rfl⟩
@[simp] theorem signD_sx (l : Tx) : signD (sx l) = l.map fun c => T [c] := by simp [signD, sx]
theorem strsOf_map (l : List Tx) : strsOf (l.map T) = some (l.map sx) := by
  induction l with
  | nil => rfl
  | cons a l ih => simp [strsOf, ih, T]
/-! ### comprehensions -/
/-- over items that are the values of xs, all pure: kept by p, made by f -/
theorem gLc_map {α : Type} {vs : List Nat} {gi : GA} {b : Bd} {gt : GT} {ge : GE} {env : Env} {w w1 : Ds} (xs : List α) (v : α → Dt) (p : α → Bool) (f : α → Dt) (hi : gi env w = .ok (xs.map v) w1)
    (h : ∀ x ∈ xs, ∃ e1, b (v x) (hide vs env) = some e1 ∧ gt e1 w1 = .ok (p x) w1 ∧ (p x = true → ge e1 w1 = .ok (f x) w1)) (hl : xs.length ≤ sizeLine) :
    gLc vs gi b gt ge env w = .ok (.lst ((xs.filter p).map f)) w1 := by
  unfold gLc
  rw [hi]
  simp only [Out.bind]
  have key : ∀ (ys : List α) (acc : List Dt), (∀ y ∈ ys, y ∈ xs) → acc.length + ys.length ≤ sizeLine → lcG b gt ge (hide vs env) (ys.map v) acc w1 = .ok (acc ++ (ys.filter p).map f) w1 := by
    intro ys
    induction ys with
    | nil => intro acc _ _; simp [lcG]
    | cons y ys ih =>
      intro acc hy hacc
      obtain ⟨e1, h1, h2, h3⟩ := h y (hy y List.mem_cons_self)
      rw [List.length_cons] at hacc
      rw [List.map_cons]
      unfold lcG
      rw [h1]
      simp only
      rw [h2]
      cases hp : p y with
      | false =>
        simp only
        rw [ih acc (fun z hz => hy z (List.mem_cons_of_mem _ hz)) (by omega)]
        simp [List.filter_cons, hp]
      | true =>
        simp only
        rw [h3 hp]
        simp only
        rw [if_pos (by omega), ih _ (fun z hz => hy z (List.mem_cons_of_mem _ hz)) (by simp; omega)]
        simp [List.filter_cons, hp]
  rw [key xs [] (fun _ h => h) (by simpa using hl)]
  rfl
/-- one that may turn the state: what it keeps -/
theorem gLc_inv {α : Type} {vs : List Nat} {gi : GA} {b : Bd} {gt : GT} {ge : GE} {env : Env} {w w1 : Ds} (P : Ds → Prop) (R : List Dt → Prop) (xs : List α) (v : α → Dt) (f : α → Dt → Prop) (hi : gi env w = .ok (xs.map v) w1) (h0 : P w1)
    (h : ∀ x ∈ xs, ∃ e1, b (v x) (hide vs env) = some e1 ∧ ∀ w, P w → ∃ t w2, gt e1 w = .ok t w2 ∧ P w2 ∧ (t = true → ∃ y w3, ge e1 w2 = .ok y w3 ∧ P w3 ∧ f x y)) (hl : xs.length ≤ sizeLine)
    (hR : ∀ zs : List (α × Dt), (zs.map (·.1)).Sublist xs → (∀ z ∈ zs, f z.1 z.2) → R (zs.map (·.2))) :
    ∃ ys w2, gLc vs gi b gt ge env w = .ok (.lst ys) w2 ∧ P w2 ∧ R ys := by
  unfold gLc
  rw [hi]
  simp only [Out.bind]
  have key : ∀ (ys : List α) (acc : List Dt) (w : Ds), (∀ y ∈ ys, y ∈ xs) → acc.length + ys.length ≤ sizeLine → P w → ∃ rs w2, lcG b gt ge (hide vs env) (ys.map v) acc w = .ok (acc ++ rs) w2 ∧ P w2 ∧ ∃ zs : List (α × Dt), (zs.map (·.1)).Sublist ys ∧ (∀ z ∈ zs, f z.1 z.2) ∧ rs = zs.map (·.2) := by
    intro ys
    induction ys with
    | nil => intro acc w _ _ hP; exact ⟨[], w, by simp [lcG], hP, [], List.Sublist.refl _, fun _ h => (nomatch h), rfl⟩
    | cons y ys ih =>
      intro acc w hy hacc hP
      obtain ⟨e1, h1, h2⟩ := h y (hy y List.mem_cons_self)
      obtain ⟨t, w2, h3, hP2, h4⟩ := h2 w hP
      rw [List.length_cons] at hacc
      rw [List.map_cons]
      unfold lcG
      rw [h1]
      simp only
      rw [h3]
      cases t with
      | false =>
        simp only
        obtain ⟨rs, w3, e, p3, zs, s1, s2⟩ := ih acc w2 (fun z hz => hy z (List.mem_cons_of_mem _ hz)) (by omega) hP2
        exact ⟨rs, w3, e, p3, zs, s1.cons _, s2⟩
      | true =>
        obtain ⟨d, w3, h5, hP3, h6⟩ := h4 rfl
        simp only
        rw [h5]
        simp only
        rw [if_pos (by omega)]
        obtain ⟨rs, w4, e, p4, zs, s1, s2⟩ := ih (acc ++ [d]) w3 (fun z hz => hy z (List.mem_cons_of_mem _ hz)) (by simp; omega) hP3
        exact ⟨d :: rs, w4, by rw [e]; simp, p4, (y, d) :: zs, s1.cons₂ _, fun z hz => (List.mem_cons.mp hz).elim (fun q => q ▸ h6) (s2.1 z), by rw [s2.2]; rfl⟩
  obtain ⟨rs, w2, e, p2, zs, z1, z2, z3⟩ := key xs [] w1 (fun _ h => h) (by simpa using hl) h0
  rw [e]
  exact ⟨rs, w2, by simp, p2, z3 ▸ hR _ z1 z2⟩
/-! ### loops -/
theorem forG_inv {α : Type} {b : Bd} {body : GS} (I : List α → List α → Env → Ds → Prop) (v : α → Dt) (xs : List α)
    (h : ∀ pre x post env w, xs = pre ++ x :: post → I pre (x :: post) env w → ∃ e1, b (v x) env = some e1 ∧ ((∃ e2 w2, body e1 w = .nx e2 w2 ∧ I (pre ++ [x]) post e2 w2) ∨ ∃ e2 w2, body e1 w = .ct e2 w2 ∧ I (pre ++ [x]) post e2 w2)) :
    ∀ {env : Env} {w : Ds}, I [] xs env w → ∃ e2 w2, forG b body (xs.map v) env w = .nx e2 w2 ∧ I xs [] e2 w2 := by
  have key : ∀ (post pre : List α) (env : Env) (w : Ds), xs = pre ++ post → I pre post env w → ∃ e2 w2, forG b body (post.map v) env w = .nx e2 w2 ∧ I xs [] e2 w2 := by
    intro post
    induction post with
    | nil => intro pre env w e hI; exact ⟨env, w, rfl, by rw [e, List.append_nil]; exact hI⟩
    | cons x post ih =>
      intro pre env w e hI
      obtain ⟨e1, h1, h2⟩ := h pre x post env w e hI
      rw [List.map_cons]
      unfold forG
      rw [h1]
      rcases h2 with ⟨e2, w2, h3, h4⟩ | ⟨e2, w2, h3, h4⟩
      · simp only
        rw [h3]
        exact ih (pre ++ [x]) e2 w2 (by rw [e]; simp) h4
      · simp only
        rw [h3]
        exact ih (pre ++ [x]) e2 w2 (by rw [e]; simp) h4
  exact fun {env w} hI => key xs [] env w rfl hI
/-! ### evaluation, for simp -/
section
variable {α β : Type} {env : Env} {w : Ds}
@[simp] theorem bind_ok (a : α) (w : Ds) (f : α → Ds → Out β) : (Out.ok a w).bind f = f a w := rfl
@[simp] theorem bind_exc (c : Str) (fs : List (Str × Dt)) (w : Ds) (f : α → Ds → Out β) : (Out.exc c fs w).bind f = .exc c fs w := rfl
@[simp] theorem gOk_app (r : Dt) : gOk r env w = .ok r w := rfl
@[simp] theorem gVar_app (i : Nat) : gVar i env w = (match env[i]? with
  | some (.dat d) => .ok d w
  | _ => .bad) := rfl
@[simp] theorem gBin_app (f : Dt → Dt → Option Dt) (ga gb : GE) : gBin f ga gb env w = (ga env w).bind fun a w1 => (gb env w1).bind fun b w2 => match f a b with
  | some r => .ok r w2
  | none => .bad := rfl
@[simp] theorem gNil_app : gNil env w = .ok [] w := rfl
@[simp] theorem gCons_app (ga : GE) (gr : GA) : gCons ga gr env w = (ga env w).bind fun a w1 => (gr env w1).bind fun r w2 => .ok (a :: r) w2 := rfl
@[simp] theorem gArgs_app (f : List Dt → Option Dt) (ga : GA) : gArgs f ga env w = (ga env w).bind fun a w1 => match f a with
  | some r => .ok r w1
  | none => .bad := rfl
@[simp] theorem gArgsF_app (f : List Dt → Option Ow) (ga : GA) : gArgsF f ga env w = (ga env w).bind fun a w1 => match f a with
  | some r => .ok r w1
  | none => .bad := rfl
@[simp] theorem gFrz_app (g : GF) : gFrz g env w = (g env w).bind fun o w1 => .ok o.dt w1 := rfl
@[simp] theorem gTst_app (g : GE) : gTst g env w = (g env w).bind fun a w1 => match a with
  | .bl b => .ok b w1
  | _ => .bad := rfl
@[simp] theorem gNot_app (g : GT) : gNot g env w = (g env w).bind fun b w1 => .ok (!b) w1 := rfl
@[simp] theorem gAnd_app (g h : GT) : gAnd g h env w = (g env w).bind fun b w1 => if b then h env w1 else .ok false w1 := rfl
@[simp] theorem gOr_app (g h : GT) : gOr g h env w = (g env w).bind fun b w1 => if b then .ok true w1 else h env w1 := rfl
@[simp] theorem gIfE_app (c : GT) (g h : GE) : gIfE c g h env w = (c env w).bind fun b w1 => if b then g env w1 else h env w1 := rfl
@[simp] theorem gTup_app (ga : GA) : gTup ga env w = (ga env w).bind fun a w1 => if a.length ≤ sizeLine then .ok (.tup a) w1 else .bad := by
  unfold gTup gArgs
  congr
  funext a w1
  by_cases h : a.length ≤ sizeLine <;> simp [h]
@[simp] theorem gLst_app (ga : GA) : gLst ga env w = (ga env w).bind fun a w1 => if a.length ≤ sizeLine then .ok (.lst a) w1 else .bad := by
  unfold gLst gArgsF
  congr
  funext a w1
  by_cases h : a.length ≤ sizeLine <;> simp [h]
@[simp] theorem gM1_app (f : Str → Dt → Option Dt) (go ge : GE) : gM1 f go ge env w = (go env w).bind fun a w1 => match a with
  | .str x => (ge env w1).bind fun d w2 => match f x d with
    | some r => .ok r w2
    | none => .bad
  | _ => .bad := rfl
@[simp] theorem gIx_app (ga gb : GE) : gIx ga gb env w = (ga env w).bind fun a w1 => (gb env w1).bind fun b w2 => match oIx w2 a b with
  | some r => .ok r w2
  | none => .bad := rfl
@[simp] theorem gNeg_app (g : GE) : gNeg g env w = (g env w).bind fun a w1 => match a with
  | .int i => .ok (.int (-i)) w1
  | _ => .bad := rfl
@[simp] theorem gIsi_app (T : String) (g : GE) : gIsi T g env w = (g env w).bind fun d w1 => match (tyD d).bind fun t => kitB t T with
  | some b => .ok (.bl b) w1
  | none => .bad := rfl
@[simp] theorem gAndV_app (g h : GE) : gAndV g h env w = (g env w).bind fun a w1 => match a with
  | .bl true => h env w1
  | .bl false => .ok (.bl false) w1
  | _ => .bad := rfl
@[simp] theorem gOrV_app (g h : GE) : gOrV g h env w = (g env w).bind fun a w1 => match a with
  | .bl true => .ok (.bl true) w1
  | .bl false => h env w1
  | _ => .bad := rfl
@[simp] theorem gNotV_app (g : GE) : gNotV g env w = (g env w).bind fun a w1 => match a with
  | .bl b => .ok (.bl (!b)) w1
  | _ => .bad := rfl
@[simp] theorem gLend_app (g : GE) : gLend g env w = (match g (lendA env) w with
  | .ok r w1 => if flat r then .ok r w1 else .bad
  | .exc c fs w1 => if flats (fs.map (·.2)) then .exc c fs w1 else .bad
  | .bad => .bad) := rfl
@[simp] theorem gLendT_app (g : GT) : gLendT g env w = (match g (lendA env) w with
  | .ok r w1 => .ok r w1
  | .exc c fs w1 => if flats (fs.map (·.2)) then .exc c fs w1 else .bad
  | .bad => .bad) := by unfold gLendT; rfl
@[simp] theorem lendA_nil : lendA [] = [] := rfl
@[simp] theorem lendA_cons (s : Sl) (r : Env) : lendA (s :: r) = lendS s :: lendA r := rfl
@[simp] theorem lendS_dat (d : Dt) : lendS (.dat d) = .dat d := rfl
@[simp] theorem lendS_un : lendS .un = .un := rfl
@[simp] theorem lendS_lst (ds : List Dt) : lendS (.own (.lst ds)) = .dat (.lst ds) := rfl
@[simp] theorem sAugL_app (i : Nat) (g : GE) : sAugL i g env w = (match env[i]? with
  | some (.own (.lst ds)) => match g env w with
    | .ok (.lst zs) w1 => if ds.length + zs.length ≤ sizeLine then .nx (env.set i (.own (.lst (ds ++ zs)))) w1 else .bad
    | .ok _ _ => .bad
    | .exc c fs w1 => .exc c fs env w1
    | .bad => .bad
  | _ => .bad) := rfl
@[simp] theorem sLm_app (i : Nat) (f : List Dt → List Dt → Option (List Dt)) (ga : GA) : sLm i f ga env w = (match env[i]? with
  | some (.own (.lst ds)) => match ga env w with
    | .ok es w1 => match f ds es with
      | some ds' => .nx (env.set i (.own (.lst ds'))) w1
      | none => .bad
    | .exc c fs w1 => .exc c fs env w1
    | .bad => .bad
  | _ => .bad) := rfl
@[simp] theorem sRetV_app (i : Nat) : sRetV i env w = (match env[i]? with
  | some (.own o) => .rtf o w
  | some (.dat d) => .ret d w
  | _ => .bad) := rfl
@[simp] theorem gIt_app (f : Dt → Option (List Dt)) (g : GE) : gIt f g env w = (g env w).bind fun d w1 => match f d with
  | some r => .ok r w1
  | none => .bad := rfl
@[simp] theorem gIts_app (f : List Dt → Option (List Dt)) (g : GA) : gIts f g env w = (g env w).bind fun d w1 => match f d with
  | some r => .ok r w1
  | none => .bad := rfl
@[simp] theorem gNoPart_app : gNoPart env w = .ok none w := rfl
@[simp] theorem gPart_app (g : GE) : gPart g env w = (g env w).bind fun a w1 => match a with
  | .int i => .ok (some i) w1
  | _ => .bad := rfl
@[simp] theorem gSl_app (ga : GE) (gl gh : GO) : gSl ga gl gh env w = (ga env w).bind fun a w1 => (gl env w1).bind fun lo w2 => (gh env w2).bind fun hi w3 => match oSl a lo hi with
  | some r => .ok r w3
  | none => .bad := rfl
@[simp] theorem sSet_app (i : Nat) (g : GE) : sSet i g env w = (match g env w with
  | .ok d w1 => if i < env.length then .nx (env.set i (.dat d)) w1 else .bad
  | .exc c fs w1 => .exc c fs env w1
  | .bad => .bad) := rfl
@[simp] theorem sSetF_app (i : Nat) (g : GF) : sSetF i g env w = (match g env w with
  | .ok o w1 => if i < env.length then .nx (env.set i (.own o)) w1 else .bad
  | .exc c fs w1 => .exc c fs env w1
  | .bad => .bad) := rfl
@[simp] theorem sAsg_app (b : Bd) (g : GE) : sAsg b g env w = (match g env w with
  | .ok d w1 => match b d env with
    | some env' => .nx env' w1
    | none => .bad
  | .exc c fs w1 => .exc c fs env w1
  | .bad => .bad) := rfl
@[simp] theorem sDrop_app (g : GE) : sDrop g env w = (match g env w with
  | .ok _ w1 => .nx env w1
  | .exc c fs w1 => .exc c fs env w1
  | .bad => .bad) := rfl
@[simp] theorem sRet_app (g : GE) : sRet g env w = (match g env w with
  | .ok d w1 => .ret d w1
  | .exc c fs w1 => .exc c fs env w1
  | .bad => .bad) := rfl
@[simp] theorem sRetF_app (g : GF) : sRetF g env w = (match g env w with
  | .ok o w1 => .rtf o w1
  | .exc c fs w1 => .exc c fs env w1
  | .bad => .bad) := rfl
@[simp] theorem sSkip_app : sSkip env w = .nx env w := rfl
@[simp] theorem sIf_app (c : GT) (a b : GS) : sIf c a b env w = (match c env w with
  | .ok true w1 => a env w1
  | .ok false w1 => b env w1
  | .exc c fs w1 => .exc c fs env w1
  | .bad => .bad) := rfl
@[simp] theorem sSeq_app (a b : GS) : sSeq a b env w = (match a env w with
  | .nx e1 w1 => b e1 w1
  | o => o) := rfl
@[simp] theorem sFor_app (gi : GA) (b : Bd) (body : GS) : sFor gi b body env w = (match gi env w with
  | .ok items w1 => forG b body items env w1
  | .exc c fs w1 => .exc c fs env w1
  | .bad => .bad) := rfl
@[simp] theorem bName_app (i : Nat) (d : Dt) : bName i d env = if i < env.length then some (env.set i (.dat d)) else none := rfl
@[simp] theorem sWd_app (n : Nat) (i : Int) (g : GE) : sWd n i g env w = (match g env w with
  | .ok (.int v) w1 => match env[n]? with
    | some (.dat .wd) => match wdPut w1 i v with
      | some w2 => .nx env w2
      | none => .bad
    | _ => .bad
  | .ok _ _ => .bad
  | .exc c fs w1 => .exc c fs env w1
  | .bad => .bad) := rfl
@[simp] theorem gCall_app (na : Nat) (dds : List Dt) (m : Mf) (ga : GA) : gCall na dds m ga env w = (ga env w).bind fun ds w1 => if ds.length = na then (match m (ds ++ dds) w1 with
  | .dat r w2 => .ok r w2
  | .own o w2 => .ok o.dt w2
  | .exc c fs w2 => .exc c fs w2
  | .bad => .bad) else .bad := rfl
@[simp] theorem gCallF_app (na : Nat) (dds : List Dt) (m : Mf) (ga : GA) : gCallF na dds m ga env w = (ga env w).bind fun ds w1 => if ds.length = na then (match m (ds ++ dds) w1 with
  | .own o w2 => .ok o w2
  | .exc c fs w2 => .exc c fs w2
  | _ => .bad) else .bad := rfl
@[simp] theorem gCall0_app (dds : List Dt) (m : Mf) : gCall0 dds m env w = (match m dds w with
  | .dat r w2 => .ok r w2
  | _ => .bad) := rfl
@[simp] theorem sRetC_app (na : Nat) (dds : List Dt) (m : Mf) (ga : GA) : sRetC na dds m ga env w = (match ga env w with
  | .ok ds w1 => if ds.length = na then (match m (ds ++ dds) w1 with
    | .dat r w2 => .ret r w2
    | .own o w2 => .rtf o w2
    | .exc c fs w2 => .exc c fs env w2
    | .bad => .bad) else .bad
  | .exc c fs w1 => .exc c fs env w1
  | .bad => .bad) := rfl
@[simp] theorem sPar_app (is : List Nat) (ga : GA) : sPar is ga env w = (match ga env w with
  | .ok ds w1 => if ds.length = is.length ∧ is.all (fun i => decide (i < env.length)) then .nx ((is.zip ds).foldl (fun e p => e.set p.1 (.dat p.2)) env) w1 else .bad
  | .exc c fs w1 => .exc c fs env w1
  | .bad => .bad) := rfl
@[simp] theorem hideO_nil : hideO [] = [] := rfl
def hideS : Sl → Sl
  | .own _ => .un
  | s => s
@[simp] theorem hideS_dat (d : Dt) : hideS (.dat d) = .dat d := rfl
@[simp] theorem hideS_un : hideS .un = .un := rfl
@[simp] theorem hideS_own (o : Ow) : hideS (.own o) = .un := rfl
@[simp] theorem hideO_cons (s : Sl) (r : Env) : hideO (s :: r) = hideS s :: hideO r := by cases s <;> rfl
@[simp] theorem wipeE_nil (env : Env) : wipeE env [] = env := rfl
@[simp] theorem wipeE_cons (env : Env) (v : Nat) (vs : List Nat) : wipeE env (v :: vs) = (wipeE env vs).set v .un := rfl
@[simp] theorem hide_app (vs : List Nat) (env : Env) : hide vs env = wipeE (hideO env) vs := rfl
@[simp] theorem runM_app (n : Nat) (g : GS) (ds : List Dt) (w : Ds) : runM n g ds w = (match g (ds.map Sl.dat ++ List.replicate (n - ds.length) .un) w with
  | .nx _ w => .dat .non w
  | .ret d w => .dat d w
  | .rtf o w => .own o w
  | .exc c fs _ w => .exc c fs w
  | _ => .bad) := rfl
@[simp] theorem rep_zero {α : Type} (a : α) : List.replicate 0 a = [] := rfl
end
/-! ### comprehensions over a text -/
@[simp] theorem srcD_T (l : Tx) : srcD (T l) = some (l.map fun c => T [c]) := by simp [srcD]
theorem join_nil : ∀ (parts : List Str), (Str.join (Str.ofString "") parts).cps.toList = (parts.map fun p => p.cps.toList).flatten
  | [] => rfl
  | [x] => by simp [Str.join]
  | x :: y :: r => by
    have h : ∀ a b : Str, (a ++ b).cps.toList = a.cps.toList ++ b.cps.toList := fun a b => by show (a.cps ++ b.cps).toList = _; simp
    rw [Str.join, h, h, join_nil (y :: r)]
    · have e : (Str.ofString "").cps.toList = [] := rfl
      rw [e]; simp
    · intro z; cases z
theorem oJoin_nil (ls : List Tx) (h : (ls.map (·.length)).sum ≤ 16777216) : oJoin (Str.ofString "") (.lst (ls.map T)) = some (T ls.flatten) := by
  show ((strsOf (ls.map T)).bind fun ys => if (ys.map (·.length)).sum + ys.length * (Str.ofString "").length ≤ 16777216 then some (Dt.str (Txt.join (Str.ofString "") ys)) else none) = _
  rw [strsOf_map]
  have h2 : (Str.ofString "").length = 0 := rfl
  simp only [Option.bind, List.map_map, Function.comp_def, h2, sx_length, Nat.mul_zero, Nat.add_zero]
  rw [if_pos h, TL.join_eq]
  congr 2
  rw [← sx_of (Str.join _ _), join_nil]
  congr 1
  simp [List.map_map, Function.comp_def]
theorem join_signs (l : Tx) (h : l.length ≤ 16777216) : oJoin (Str.ofString "") (.lst (l.map fun c => T [c])) = some (T l) := by
  have := oJoin_nil (l.map fun c => [c]) (by
    have : ((l.map fun c => [c]).map (·.length)).sum = l.length := by
      induction l with
      | nil => rfl
      | cons a l ih => simp at h ih ⊢; rw [ih (by omega)]; omega
    rw [this]; exact h)
  rw [List.map_map] at this
  rw [show (l.map fun c => T [c]) = l.map (T ∘ fun c => [c]) from rfl, this]
  have e : ∀ l : Tx, (l.map fun c => [c]).flatten = l := fun l => by
    induction l with
    | nil => rfl
    | cons a l ih => simp only [List.map_cons, List.flatten_cons, ih]; rfl
  rw [e]
/-! ### texts of a comprehension -/
theorem gLc_text {vs : List Nat} {i : Nat} {gi : GE} {gt : GT} {ge : GE} {env : Env} {w w1 : Ds} (a : Tx) (p : Nat → Bool) (f : Nat → Dt) (hi : gi env w = .ok (T a) w1) (hs : i < (hide vs env).length)
    (ht : ∀ c ∈ a, gt ((hide vs env).set i (.dat (T [c]))) w1 = .ok (p c) w1) (he : ∀ c ∈ a, p c = true → ge ((hide vs env).set i (.dat (T [c]))) w1 = .ok (f c) w1) (hl : a.length ≤ sizeLine) :
    gLc vs (gIt srcD gi) (bName i) gt ge env w = .ok (.lst ((a.filter p).map f)) w1 :=
  gLc_map a (fun c => T [c]) p f (by rw [gIt_app, hi]; simp) (fun c hc => ⟨_, by rw [bName_app, if_pos hs], ht c hc, he c hc⟩) hl
@[simp] theorem gYes_app {env : Env} {w : Ds} : gYes env w = .ok true w := rfl
/-! ### comparisons -/
@[simp] theorem inD_T (c : Nat) (b : Tx) : inD (T [c]) (T b) = some (decide (c ∈ b)) := by
  simp only [inD, sx_toList]
@[simp] theorem oIn_T (c : Nat) (b : Tx) : oIn (T [c]) (T b) = some (.bl (decide (c ∈ b))) := by unfold oIn; rw [inD_T]; rfl
@[simp] theorem oNotIn_T (c : Nat) (b : Tx) : oNotIn (T [c]) (T b) = some (.bl (!decide (c ∈ b))) := by unfold oNotIn; rw [inD_T]; rfl
/-- a text as the laws make them -/
def Asc (l : Tx) : Prop := ∀ c ∈ l, c < 128
/-- plain data: no bools, texts of plain signs -/
inductive Pl : Nat → Dt → Prop
  | non {n : Nat} : Pl n .non
  | int {n : Nat} (i : Int) : Pl n (.int i)
  | str {n : Nat} {a : Tx} : Asc a → Pl n (T a)
  | tup {n : Nat} {xs : List Dt} : (∀ x ∈ xs, Pl n x) → Pl (n + 1) (.tup xs)
  | lst {n : Nat} {xs : List Dt} : (∀ x ∈ xs, Pl n x) → Pl (n + 1) (.lst xs)
theorem asc_ok {a : Tx} (h : Asc a) : PyData.strOk (sx a) = true := by
  unfold PyData.strOk
  simp [sx]
  intro c hc
  have := h c hc
  omega
mutual
theorem Pl.py : ∀ {n : Nat} {d : Dt}, Pl n d → ∃ p, toPy d = some p ∧ p.canLay0 = true ∧ p.depth ≤ n
  | _, _, .non => ⟨_, rfl, rfl, Nat.zero_le _⟩
  | _, _, .int i => ⟨_, rfl, rfl, Nat.zero_le _⟩
  | _, _, .str h => ⟨_, rfl, by simp only [PyData.canLay0]; exact asc_ok h, Nat.zero_le _⟩
  | n + 1, .tup xs, .tup h => by
    obtain ⟨ps, e, c, d⟩ := pl_pys xs h
    exact ⟨.tuple ps, by simp [toPy, e], by simpa [PyData.canLay0] using c, by simp only [PyData.depth]; omega⟩
  | n + 1, .lst xs, .lst h => by
    obtain ⟨ps, e, c, d⟩ := pl_pys xs h
    exact ⟨.list ps, by simp [toPy, e], by simpa [PyData.canLay0] using c, by simp only [PyData.depth]; omega⟩
theorem pl_pys {n : Nat} : ∀ xs : List Dt, (∀ x ∈ xs, Pl n x) → ∃ ps, toPys xs = some ps ∧ PyData.canLayAll0 ps = true ∧ PyData.depthAll ps ≤ n
  | [], _ => ⟨[], rfl, rfl, Nat.zero_le _⟩
  | x :: xs, h => by
    obtain ⟨p, e1, c1, d1⟩ := Pl.py (h x List.mem_cons_self)
    obtain ⟨ps, e2, c2, d2⟩ := pl_pys xs fun y hy => h y (List.mem_cons_of_mem _ hy)
    exact ⟨p :: ps, by simp [toPys, e1, e2], by simp [PyData.canLayAll0, c1, c2], by simp only [PyData.depthAll]; omega⟩
end
theorem toPys_len : ∀ {xs : List Dt} {ps : List PyData}, toPys xs = some ps → ps.length = xs.length
  | [], ps, h => by simp [toPys] at h; rw [h]; rfl
  | x :: xs, ps, h => by
    unfold toPys at h
    cases e1 : toPy x with
    | none => rw [e1] at h; cases h
    | some p =>
      cases e2 : toPys xs with
      | none => rw [e1, e2] at h; cases h
      | some q => rw [e1, e2] at h; cases h; simp [toPys_len e2]
mutual
theorem Pl.eqv : ∀ {n m : Nat} {a b : Dt} {p q : PyData}, Pl n a → Pl m b → toPy a = some p → toPy b = some q → (PyData.eqv p q = true ↔ a = b)
  | _, _, _, _, _, _, .non, hb, ea, eb => by
    cases ea
    cases hb with
    | non => cases eb; simp [PyData.eqv]
    | int j => cases eb; simp [PyData.eqv]
    | str h => cases eb; simp [PyData.eqv]
    | tup h => obtain ⟨ps, e, _⟩ := pl_pys _ h; simp [toPy, e] at eb; rw [← eb]; simp [PyData.eqv]
    | lst h => obtain ⟨ps, e, _⟩ := pl_pys _ h; simp [toPy, e] at eb; rw [← eb]; simp [PyData.eqv]
  | _, _, _, _, _, _, .int i, hb, ea, eb => by
    cases ea
    cases hb with
    | non => cases eb; simp [PyData.eqv]
    | int j => cases eb; simp [PyData.eqv]
    | str h => cases eb; simp [PyData.eqv]
    | tup h => obtain ⟨ps, e, _⟩ := pl_pys _ h; simp [toPy, e] at eb; rw [← eb]; simp [PyData.eqv]
    | lst h => obtain ⟨ps, e, _⟩ := pl_pys _ h; simp [toPy, e] at eb; rw [← eb]; simp [PyData.eqv]
  | _, _, _, _, _, _, .str h0, hb, ea, eb => by
    cases ea
    cases hb with
    | non => cases eb; simp [PyData.eqv]
    | int j => cases eb; simp [PyData.eqv]
    | str h => cases eb; simp [PyData.eqv]
    | tup h => obtain ⟨ps, e, _⟩ := pl_pys _ h; simp [toPy, e] at eb; rw [← eb]; simp [PyData.eqv]
    | lst h => obtain ⟨ps, e, _⟩ := pl_pys _ h; simp [toPy, e] at eb; rw [← eb]; simp [PyData.eqv]
  | _, _, .tup xs, b, p, q, .tup h0, hb, ea, eb => by
    obtain ⟨us, e0, _⟩ := pl_pys _ h0
    simp [toPy, e0] at ea
    rw [← ea]
    cases hb with
    | non => cases eb; simp [PyData.eqv]
    | int j => cases eb; simp [PyData.eqv]
    | str h => cases eb; simp [PyData.eqv]
    | @tup m ys h =>
      obtain ⟨ps, e, _⟩ := pl_pys _ h; simp [toPy, e] at eb; rw [← eb]
      simp only [PyData.eqv, Dt.tup.injEq]
      exact pl_eqvs xs ys h0 h e0 e
    | lst h => obtain ⟨ps, e, _⟩ := pl_pys _ h; simp [toPy, e] at eb; rw [← eb]; simp [PyData.eqv]
  | _, _, .lst xs, b, p, q, .lst h0, hb, ea, eb => by
    obtain ⟨us, e0, _⟩ := pl_pys _ h0
    simp [toPy, e0] at ea
    rw [← ea]
    cases hb with
    | non => cases eb; simp [PyData.eqv]
    | int j => cases eb; simp [PyData.eqv]
    | str h => cases eb; simp [PyData.eqv]
    | tup h => obtain ⟨ps, e, _⟩ := pl_pys _ h; simp [toPy, e] at eb; rw [← eb]; simp [PyData.eqv]
    | @lst m ys h =>
      obtain ⟨ps, e, _⟩ := pl_pys _ h; simp [toPy, e] at eb; rw [← eb]
      simp only [PyData.eqv, Dt.lst.injEq]
      exact pl_eqvs xs ys h0 h e0 e
theorem pl_eqvs {n m : Nat} : ∀ (xs ys : List Dt) {ps qs : List PyData}, (∀ x ∈ xs, Pl n x) → (∀ y ∈ ys, Pl m y) → toPys xs = some ps → toPys ys = some qs → (PyData.eqvAll ps qs = true ↔ xs = ys)
  | [], [], ps, qs, _, _, e1, e2 => by simp [toPys] at e1 e2; rw [e1, e2]; simp [PyData.eqvAll]
  | [], y :: ys, ps, qs, _, _, e1, e2 => by
    have := toPys_len e2
    simp [toPys] at e1; rw [e1]
    cases qs with
    | nil => simp at this
    | cons q qs => simp [PyData.eqvAll]
  | x :: xs, [], ps, qs, _, _, e1, e2 => by
    have := toPys_len e1
    simp [toPys] at e2; rw [e2]
    cases ps with
    | nil => simp at this
    | cons q qs => simp [PyData.eqvAll]
  | x :: xs, y :: ys, ps, qs, h1, h2, e1, e2 => by
    obtain ⟨p, ep, _⟩ := Pl.py (h1 x List.mem_cons_self)
    obtain ⟨us, eu, _⟩ := pl_pys xs fun z hz => h1 z (List.mem_cons_of_mem _ hz)
    obtain ⟨q, eq, _⟩ := Pl.py (h2 y List.mem_cons_self)
    obtain ⟨vs, ev, _⟩ := pl_pys ys fun z hz => h2 z (List.mem_cons_of_mem _ hz)
    simp [toPys, ep, eu] at e1
    simp [toPys, eq, ev] at e2
    rw [← e1, ← e2]
    simp only [PyData.eqvAll, Bool.and_eq_true, List.cons.injEq]
    exact and_congr (Pl.eqv (h1 x List.mem_cons_self) (h2 y List.mem_cons_self) ep eq) (pl_eqvs xs ys (fun z hz => h1 z (List.mem_cons_of_mem _ hz)) (fun z hz => h2 z (List.mem_cons_of_mem _ hz)) eu ev)
end
theorem eqD_pl {n m : Nat} {a b : Dt} (ha : Pl n a) (hb : Pl m b) (hn : n ≤ 64 := by decide) (hm : m ≤ 64 := by decide) : ∃ r, eqD a b = some r ∧ (r = true ↔ a = b) := by
  obtain ⟨p, e1, c1, d1⟩ := ha.py
  obtain ⟨q, e2, c2, d2⟩ := hb.py
  refine ⟨PyData.eqv p q, ?_, Pl.eqv ha hb e1 e2⟩
  unfold eqD
  rw [e1, e2]
  simp only [Option.bind]
  rw [if_pos ⟨by simp [SeqAt.shaped, c1]; omega, by simp [SeqAt.shaped, c2]; omega⟩]
/-- == where both are plain and alike -/
theorem oEq_same {n : Nat} {a : Dt} (ha : Pl n a) (hn : n ≤ 64 := by decide) : oEq a a = some (.bl true) := by
  obtain ⟨r, e, h⟩ := eqD_pl ha ha hn hn
  unfold oEq; rw [e, h.mpr rfl]; rfl
theorem oNe_same {n : Nat} {a : Dt} (ha : Pl n a) (hn : n ≤ 64 := by decide) : oNe a a = some (.bl false) := by
  obtain ⟨r, e, h⟩ := eqD_pl ha ha hn hn
  unfold oNe; rw [e, h.mpr rfl]; rfl
theorem eqD_inj {α : Type} [DecidableEq α] {n m : Nat} {f : α → Dt} (hf : ∀ x y, f x = f y → x = y) {a b : α} (ha : Pl n (f a)) (hb : Pl m (f b)) (hn : n ≤ 64 := by decide) (hm : m ≤ 64 := by decide) : eqD (f a) (f b) = some (decide (a = b)) := by
  obtain ⟨r, e, h⟩ := eqD_pl ha hb hn hm
  rw [e]
  congr 1
  by_cases z : a = b
  · rw [h.mpr (by rw [z])]; simp [z]
  · cases r with
    | false => simp [z]
    | true => exact absurd (hf _ _ (h.mp rfl)) z
@[simp] theorem eqD_int (i j : Int) : eqD (.int i) (.int j) = some (decide (i = j)) := eqD_inj (f := Dt.int) (fun _ _ h => by cases h; rfl) (n := 0) (m := 0) (.int i) (.int j)
@[simp] theorem oEq_int (i j : Int) : oEq (.int i) (.int j) = some (.bl (decide (i = j))) := by unfold oEq; rw [eqD_int]; rfl
@[simp] theorem oNe_int (i j : Int) : oNe (.int i) (.int j) = some (.bl (!decide (i = j))) := by unfold oNe; rw [eqD_int]; rfl
theorem eqD_T {a b : Tx} (ha : Asc a) (hb : Asc b) : eqD (T a) (T b) = some (decide (a = b)) := eqD_inj (f := T) (fun _ _ h => by simpa [T] using h) (n := 0) (m := 0) (.str ha) (.str hb)
theorem oEq_T {a b : Tx} (ha : Asc a) (hb : Asc b) : oEq (T a) (T b) = some (.bl (decide (a = b))) := by unfold oEq; rw [eqD_T ha hb]; rfl
theorem oNe_T {a b : Tx} (ha : Asc a) (hb : Asc b) : oNe (T a) (T b) = some (.bl (!decide (a = b))) := by unfold oNe; rw [eqD_T ha hb]; rfl
@[simp] theorem eqD_bl (i j : Bool) : eqD (.bl i) (.bl j) = some (i == j) := by cases i <;> cases j <;> rfl
@[simp] theorem oEq_bl (i j : Bool) : oEq (.bl i) (.bl j) = some (.bl (i == j)) := by unfold oEq; rw [eqD_bl]; rfl
@[simp] theorem oNe_bl (i j : Bool) : oNe (.bl i) (.bl j) = some (.bl (!(i == j))) := by unfold oNe; rw [eqD_bl]; rfl
theorem blsOf_map {α : Type} (xs : List α) (p : α → Bool) : blsOf (xs.map fun c => .bl (p c)) = some (xs.map p) := by
  induction xs with
  | nil => rfl
  | cons a xs ih => simp [blsOf, ih]
@[simp] theorem oAll_map {α : Type} (xs : List α) (p : α → Bool) : oAll [.lst (xs.map fun c => .bl (p c))] = some (.bl (xs.all p)) := by
  unfold oAll; simp only [blsOf_map]; simp [Function.comp_def]
@[simp] theorem oAny_map {α : Type} (xs : List α) (p : α → Bool) : oAny [.lst (xs.map fun c => .bl (p c))] = some (.bl (xs.any p)) := by
  unfold oAny; simp only [blsOf_map]; simp [Function.comp_def]
@[simp] theorem filter_tt {α : Type} (xs : List α) : (xs.filter fun _ => true) = xs := by simp
/-! ### loops that may leave -/
@[simp] theorem sx_lt {a b : Tx} : (sx a).cps < (sx b).cps ↔ a < b := by
  show (sx a).cps.toList < (sx b).cps.toList ↔ _
  rw [sx_toList, sx_toList]
@[simp] theorem one_lt {c d : Nat} : ([c] : Tx) < [d] ↔ c < d := by
  rw [List.cons_lt_cons_iff]
  simp
/-! ### the draws' list -/
@[simp] theorem oIx_wd0 (w : Ds) : oIx w .wd (.int 0) = some (.scr w.ns) := rfl
@[simp] theorem oIx_wd1 (w : Ds) : oIx w .wd (.int 1) = some (.int w.pl) := rfl
@[simp] theorem oIx_wd2 (w : Ds) : oIx w .wd (.int 2) = some (.int w.rem) := rfl
@[simp] theorem oIx_wd3 (w : Ds) : oIx w .wd (.int 3) = some (.int w.seed) := rfl
@[simp] theorem oIx_scr (w : Ds) (ns : List Int) (i : Int) : oIx w (.scr ns) (.int i) = (atI ns i).map .int := rfl
@[simp] theorem oGt_int (i j : Int) : oGt (.int i) (.int j) = some (.bl (decide (j < i))) := rfl
@[simp] theorem oGe_int (i j : Int) : oGe (.int i) (.int j) = some (.bl (decide (j ≤ i))) := rfl
@[simp] theorem oLt_int (i j : Int) : oLt (.int i) (.int j) = some (.bl (decide (i < j))) := rfl
@[simp] theorem oLe_int (i j : Int) : oLe (.int i) (.int j) = some (.bl (decide (i ≤ j))) := rfl
@[simp] theorem oAdd_int (i j : Int) : oAdd (.int i) (.int j) = some (.int (i + j)) := rfl
@[simp] theorem oSub_int (i j : Int) : oSub (.int i) (.int j) = some (.int (i - j)) := rfl
@[simp] theorem oMod_int (i j : Int) (h : 0 < j) : oMod (.int i) (.int j) = some (.int (i % j)) := if_pos h
@[simp] theorem oDiv_int (i j : Int) (h : 0 < j) (h2 : j < 1073741824) : oDiv (.int i) (.int j) = some (.int (i / j)) := if_pos ⟨h, h2⟩
def absI (i : Int) : Int := if i < 0 then -i else i
@[simp] theorem oAbs_int (i : Int) : oAbs [.int i] = some (.int (absI i)) := rfl
@[simp] theorem wdPut1 (w : Ds) (v : Int) : wdPut w 1 v = some { w with pl := v } := rfl
@[simp] theorem wdPut2 (w : Ds) (v : Int) : wdPut w 2 v = some { w with rem := v } := rfl
@[simp] theorem wdPut3 (w : Ds) (v : Int) : wdPut w 3 v = some { w with seed := v } := rfl
theorem oMul_int {i j : Int} (h : -(2 ^ 64) < j ∧ j < 2 ^ 64) : oMul (.int i) (.int j) = some (.int (i * j)) := if_pos (.inr h)
/-! ### one step at a time -/
section
variable {env e1 : Env} {w w1 w2 : Ds}
theorem sSeq_nx {a b : GS} {o : OutS} (h : a env w = .nx e1 w1) (g : b e1 w1 = o) : sSeq a b env w = o := by simp only [sSeq_app, h]; exact g
theorem sSeq_ret {a b : GS} {d : Dt} (h : a env w = .ret d w1) : sSeq a b env w = .ret d w1 := by simp only [sSeq_app, h]
theorem sSet_ok {i : Nat} {g : GE} {d : Dt} (h : g env w = .ok d w1) (hi : i < env.length := by simp) : sSet i g env w = .nx (env.set i (.dat d)) w1 := by simp only [sSet_app, h, if_pos hi]
theorem sSetF_ok {i : Nat} {g : GF} {d : Ow} (h : g env w = .ok d w1) (hi : i < env.length := by simp) : sSetF i g env w = .nx (env.set i (.own d)) w1 := by simp only [sSetF_app, h, if_pos hi]
theorem sIf_t {c : GT} {a b : GS} {o : OutS} (h : c env w = .ok true w1) (g : a env w1 = o) : sIf c a b env w = o := by simp only [sIf_app, h]; exact g
theorem sIf_f {c : GT} {a b : GS} {o : OutS} (h : c env w = .ok false w1) (g : b env w1 = o) : sIf c a b env w = o := by simp only [sIf_app, h]; exact g
theorem sRet_ok {g : GE} {d : Dt} (h : g env w = .ok d w1) : sRet g env w = .ret d w1 := by simp only [sRet_app, h]
theorem sRetF_ok {g : GF} {d : Ow} (h : g env w = .ok d w1) : sRetF g env w = .rtf d w1 := by simp only [sRetF_app, h]
theorem gCall_dat {na : Nat} {m : Mf} {ga : GA} {ds : List Dt} {r : Dt} (h : ga env w = .ok ds w1) (hm : m ds w1 = .dat r w2) (hn : ds.length = na := by rfl) : gCall na [] m ga env w = .ok r w2 := by
  simp only [gCall_app, h, bind_ok, List.append_nil, if_pos hn, hm]
theorem gCall_own {na : Nat} {m : Mf} {ga : GA} {ds : List Dt} {xs : List Dt} (h : ga env w = .ok ds w1) (hm : m ds w1 = .own (.lst xs) w2) (hn : ds.length = na := by rfl) : gCall na [] m ga env w = .ok (.lst xs) w2 := by
  simp only [gCall_app, h, bind_ok, List.append_nil, if_pos hn, hm]; rfl
theorem gCallF_own {na : Nat} {m : Mf} {ga : GA} {ds : List Dt} {o : Ow} (h : ga env w = .ok ds w1) (hm : m ds w1 = .own o w2) (hn : ds.length = na := by rfl) : gCallF na [] m ga env w = .ok o w2 := by
  simp only [gCallF_app, h, bind_ok, List.append_nil, if_pos hn, hm]
theorem sRetC_dat {na : Nat} {m : Mf} {ga : GA} {ds : List Dt} {r : Dt} (h : ga env w = .ok ds w1) (hm : m ds w1 = .dat r w2) (hn : ds.length = na := by rfl) : sRetC na [] m ga env w = .ret r w2 := by
  simp only [sRetC_app, h, List.append_nil, if_pos hn, hm]
theorem sRetC_own {na : Nat} {m : Mf} {ga : GA} {ds : List Dt} {o : Ow} (h : ga env w = .ok ds w1) (hm : m ds w1 = .own o w2) (hn : ds.length = na := by rfl) : sRetC na [] m ga env w = .rtf o w2 := by
  simp only [sRetC_app, h, List.append_nil, if_pos hn, hm]
theorem sFor_ok {gi : GA} {b : Bd} {body : GS} {items : List Dt} {o : OutS} (h : gi env w = .ok items w1) (g : forG b body items env w1 = o) : sFor gi b body env w = o := by simp only [sFor_app, h]; exact g
theorem gIts_ok {f : List Dt → Option (List Dt)} {g : GA} {d r : List Dt} (h : g env w = .ok d w1) (hf : f d = some r) : gIts f g env w = .ok r w1 := by simp only [gIts_app, h, bind_ok, hf]
theorem gIt_ok {f : Dt → Option (List Dt)} {g : GE} {d : Dt} {r : List Dt} (h : g env w = .ok d w1) (hf : f d = some r) : gIt f g env w = .ok r w1 := by simp only [gIt_app, h, bind_ok, hf]
theorem gArgs_ok {f : List Dt → Option Dt} {g : GA} {d : List Dt} {r : Dt} (h : g env w = .ok d w1) (hf : f d = some r) : gArgs f g env w = .ok r w1 := by simp only [gArgs_app, h, bind_ok, hf]
theorem gArgsF_ok {f : List Dt → Option Ow} {g : GA} {d : List Dt} {r : Ow} (h : g env w = .ok d w1) (hf : f d = some r) : gArgsF f g env w = .ok r w1 := by simp only [gArgsF_app, h, bind_ok, hf]
theorem gAndV_t {g h : GE} {o : Out Dt} (e : g env w = .ok (.bl true) w1) (e' : h env w1 = o) : gAndV g h env w = o := by rw [gAndV_app, e]; exact e'
theorem gAndV_f {g h : GE} (e : g env w = .ok (.bl false) w1) : gAndV g h env w = .ok (.bl false) w1 := by rw [gAndV_app, e]; rfl
theorem gAnd_ok {g h : GT} {a b : Bool} (e : g env w = .ok a w1) (e' : h env w1 = .ok b w1) : gAnd g h env w = .ok (a && b) w1 := by rw [gAnd_app, e, bind_ok]; cases a <;> simp [e']
theorem gOr_ok {g h : GT} {a b : Bool} (e : g env w = .ok a w1) (e' : h env w1 = .ok b w1) : gOr g h env w = .ok (a || b) w1 := by rw [gOr_app, e, bind_ok]; cases a <;> simp [e']
theorem gNot_ok {g : GT} {a : Bool} (e : g env w = .ok a w1) : gNot g env w = .ok (!a) w1 := by rw [gNot_app, e]; rfl
theorem gLendT_ok {g : GT} {a : Bool} (e : g (lendA env) w = .ok a w1) : gLendT g env w = .ok a w1 := by rw [gLendT_app, e]
theorem ga1 {g : GE} {d : Dt} (h : g env w = .ok d w1) : gCons g gNil env w = .ok [d] w1 := by simp [h]
theorem ga2 {g g' : GE} {d d' : Dt} (h : g env w = .ok d w1) (h' : g' env w1 = .ok d' w2) : gCons g (gCons g' gNil) env w = .ok [d, d'] w2 := by simp [h, h']
theorem ga3 {g g' g'' : GE} {d d' d'' : Dt} {w3 : Ds} (h : g env w = .ok d w1) (h' : g' env w1 = .ok d' w2) (h'' : g'' env w2 = .ok d'' w3) : gCons g (gCons g' (gCons g'' gNil)) env w = .ok [d, d', d''] w3 := by simp [h, h', h'']
theorem gBin_ok {f : Dt → Dt → Option Dt} {ga gb : GE} {a b r : Dt} (h : ga env w = .ok a w1) (h' : gb env w1 = .ok b w2) (hf : f a b = some r) : gBin f ga gb env w = .ok r w2 := by simp [h, h', hf]
theorem gIx_ok {ga gb : GE} {a b r : Dt} (h : ga env w = .ok a w1) (h' : gb env w1 = .ok b w2) (hf : oIx w2 a b = some r) : gIx ga gb env w = .ok r w2 := by simp [h, h', hf]
theorem gFrz_lst {g : GF} {xs : List Dt} (h : g env w = .ok (.lst xs) w1) : gFrz g env w = .ok (.lst xs) w1 := by simp [h, Ow.dt]
theorem gM1_ok {f : Str → Dt → Option Dt} {go ge : GE} {x : Str} {d r : Dt} (h : go env w = .ok (.str x) w1) (h' : ge env w1 = .ok d w2) (hf : f x d = some r) : gM1 f go ge env w = .ok r w2 := by simp [h, h', hf]
theorem gTst_ok {g : GE} {b : Bool} (h : g env w = .ok (.bl b) w1) : gTst g env w = .ok b w1 := by simp [h]
theorem runM_ret {n : Nat} {g : GS} {ds : List Dt} {d : Dt} (h : g (ds.map Sl.dat ++ List.replicate (n - ds.length) .un) w = .ret d w1) : runM n g ds w = .dat d w1 := by simp only [runM_app, h]
theorem runM_rtf {n : Nat} {g : GS} {ds : List Dt} {d : Ow} (h : g (ds.map Sl.dat ++ List.replicate (n - ds.length) .un) w = .rtf d w1) : runM n g ds w = .own d w1 := by simp only [runM_app, h]
end
@[simp] theorem rngD_zero (n : Nat) : rngD 0 n = (List.range n).map fun k : Nat => Dt.int (k : Int) := by simp [rngD]
theorem oRng1_nat (n : Nat) (h : n < 1000000) : oRng1 [.int (n : Int)] = some ((List.range n).map fun k : Nat => Dt.int (k : Int)) := by
  have h1 : -(2 ^ 62) ≤ (n : Int) ∧ (n : Int) < 2 ^ 62 := by omega
  simp only [oRng1]
  rw [if_pos h1, rngD_zero, Int.toNat_natCast]
end Dn
end
section
/-! y = {k: v for ..} where a block captures y. -/
namespace Dn
open PySem L2 PySem.Spec PyProof.Rows
end Dn
end
section
/-! sorted(a text): its signs in order. -/
namespace Dn
open PySem PySem.Spec PyProof.Rows L2 Sk
open PySem.W (AllAlike Sortable dataLe alike EachIs)
end Dn
/-! int in (ints) -/
namespace Dn
open PySem L2 PySem.Spec PyProof.Rows
end Dn
end
section
/-! y = f(..) where f answers data (None) at times, an own thing at others. -/
namespace Dn
open PySem L2 PySem.Spec PyProof.Rows
def sSetX (i na : Nat) (dds : List Dt) (m : Mf) (ga : GA) : GS := fun env w => match ga env w with
  | .ok ds w1 => if ds.length = na then (match m (ds ++ dds) w1 with
    | .dat d w2 => if i < env.length then .nx (env.set i (.dat d)) w2 else .bad
    | .own o w2 => if i < env.length then .nx (env.set i (.own o)) w2 else .bad
    | .exc c fs w2 => .exc c fs env w2
    | .bad => .bad) else .bad
  | .exc c fs w1 => .exc c fs env w1
  | .bad => .bad
section
variable {F : Fc}
theorem ds_setX {y x : Str} {p' p pos spos : PySem.Pos} {e : Expr} {es : List Expr} {ga : GA} {j na : Nat} {dds : List Dt} {m : Mf} (i : Nat) (hN : F.N.Nodup) (hi : F.N[i]? = some y) (hy : Loc F.sc y) (hf : F.top = true ∨ F.sc.names.lookup y = some .local)
    (G : FkA F.toBs j x na dds m) (hj : j ≤ F.lv) (hg : F.sc.names.lookup x = some .globalImplicit) (h : DL F (e :: es) ga)
    (hdb : (x == ("__debug__" : Str)) = false := by decide +kernel) (he : ∀ env, starEach (e :: es) env = (false, eval e env) :: starEach es env := by intro _; rfl) (hpl : ∀ env, (backTo pos (starEach es env)).any (·.1) = false := by intro _; rfl) (hx : F.xa = none := by rfl) (hc : F.calm = true := by rfl)
    (hs : ∀ env, swapsWith (.Call (.Name x p) (e :: es) [] pos) (some (.Name y p')) spos.line env = pure false := by intro _; rfl) :
    DS F (.Assign [.Name y p'] (.Call (.Name x p) (e :: es) [] pos) spos) (sSetX i na dds m ga) := by
  obtain ⟨ta, a1, a2⟩ := h.ex
  obtain ⟨f, fd, ps, dvs, ds, hm, hk, fn, hb, hd, hn, hr⟩ := G.ex
  refine ⟨⟨fun W => tAsg (tCallSD (spM F.K F.cls F.tb ps.length m) dvs (WE W) (ta W)) (L2.gName i), fun X W O T => ?_, fun W C env w σ D H Dn K S pp => ?_⟩⟩
  · refine ps_set (by rw [O.N]; exact hN) (by rw [O.N]; exact hi) (by rw [O.sc]; exact hy) (pe_callSD (CX := L2.CX X.prog X.w) (f := f) (fd := fd) (ps := ps) (ds := ds) (k := j) ?_ ((O.full hc).mono hj) ?_ ?_ ?_ ?_ hd (fun σ => passAt T.tk σ) (a1 X W O T) hdb (he _) (hpl _)) (hs _) ?_
    · rw [O.prog, O.w, O.K, O.mg, O.base]; exact fn
    · show X.env.scope.names.lookup x = _; rw [O.sc]; exact hg
    · rw [O.mg]; exact hm
    · rw [O.K]; exact hk
    · rw [O.K]; exact hb
    · rcases hf with z | z
      · exact .inl (O.fn z y)
      · exact .inr (by rw [O.sc]; exact z)
  · refine a2 W C env w σ D H _ K S ?_
    unfold sSetX at pp
    cases ea : ga env w with
    | bad => rw [ea] at pp; exact pp
    | exc c fs w1 => rw [ea] at pp; exact pp σ
    | ok us w1 =>
      rw [ea] at pp
      simp only at pp
      intro vs D1 H1 S1 s1 r
      by_cases hl : us.length = na
      · rw [if_pos hl] at pp
        refine ⟨by rw [List.length_append, r.length, (hr C.k D1 K.K K.cls).length, hl, hn], C.k, D1, us ++ dds, w1, K.K, K.cls, K.tb, K.xa.trans hx, S1.up, r.append (hr C.k D1 K.K K.cls), S1.wd, ?_⟩
        cases em : m (us ++ dds) w1 with
        | bad => rw [em] at pp; exact pp
        | dat d w2 =>
          rw [em] at pp
          simp only at pp
          intro v D' H' x rv
          split at pp
          · rename_i hlen
            exact pp _ D' H' ((S1.ew (fun _ h => nomatch h) (Ew.ct (C := ⟨C.k, H1, D1⟩) (C' := C) rfl x)).setD rv hlen)
          · exact pp.elim
        | exc c fs w2 => rw [em] at pp; exact fun Ca d D' H' x xx => pp σ Ca d D' H' (S1.ew (fun _ h => nomatch h) (Ew.ct (C := ⟨C.k, H1, D1⟩) (C' := C) rfl x)) xx
        | own o w2 =>
          rw [em] at pp
          simp only at pp
          intro q fp D' H' x ow nd hq
          split at pp
          · rename_i hlen
            exact pp _ D' H' ((S1.freshW (Ew.ct (C := ⟨C.k, H1, D1⟩) (C' := C) rfl x) nd hq).set (s := .own o) ⟨q, rfl, ow.ct rfl⟩ hlen)
          · exact pp.elim
      · rw [if_neg hl] at pp; exact pp.elim
end
end Dn
end
section
noncomputable section
namespace Mi
open PySem L2 Dn
/-! _law_draw -/
def g__law_draw : GS := (sSeq (sIf (gTst (gBin oGt (gIx (gVar 0) (gOk (.int 2))) (gOk (.int 0)))) (sSeq (sSet 3 (gBin oMod (gIx (gVar 0) (gOk (.int 2))) (gVar 1))) (sSeq (sWd 0 2 (gBin oDiv (gIx (gVar 0) (gOk (.int 2))) (gVar 1))) (sRet (gVar 3)))) sSkip) (sSeq (sSet 2 (gIfE (gTst (gBin oGt (gArgs oLen (gCons (gIx (gVar 0) (gOk (.int 0))) gNil)) (gOk (.int 0)))) (gIx (gIx (gVar 0) (gOk (.int 0))) (gBin oMod (gIx (gVar 0) (gOk (.int 1))) (gArgs oLen (gCons (gIx (gVar 0) (gOk (.int 0))) gNil)))) (gOk (.int 0)))) (sSeq (sWd 0 1 (gBin oAdd (gIx (gVar 0) (gOk (.int 1))) (gOk (.int 1)))) (sSeq (sIf (gTst (gBin oGe (gArgs oAbs (gCons (gVar 2) gNil)) (gBin oPow (gOk (.int 10)) (gOk (.int 18))))) (sSeq (sWd 0 2 (gBin oDiv (gArgs oAbs (gCons (gVar 2) gNil)) (gVar 1))) (sRet (gBin oMod (gArgs oAbs (gCons (gVar 2) gNil)) (gVar 1)))) sSkip) (sSeq (sWd 0 3 (gBin oMod (gBin oAdd (gBin oAdd (gBin oMul (gIx (gVar 0) (gOk (.int 3))) (gOk (.int 69621))) (gBin oMod (gVar 2) (gOk (.int 2147483647)))) (gIx (gVar 0) (gOk (.int 1)))) (gOk (.int 2147483647)))) (sRet (gBin oMod (gBin oDiv (gIx (gVar 0) (gOk (.int 3))) (gOk (.int 64))) (gVar 1))))))))
def m__law_draw : Mf := runM 4 g__law_draw
/-! _law_letters -/
def g__law_letters : GS := (sRet (gOk (.str "abcdefghijklmnopqrstuvwxyz")))
def m__law_letters : Mf := runM 0 g__law_letters
/-! _law_head_of -/
def b__law_head_of_0 : GS := (sSeq (sSet 6 (gCall 2 [] m__law_draw (gCons (gVar 0) (gCons (gBin oAdd (gIfE (gTst (gBin oEq (gVar 5) (gOk (.int 0)))) (gVar 4) (gArgs oMin2 (gCons (gVar 4) (gCons (gOk (.int 5)) gNil)))) (gOk (.int 1))) gNil)))) (sSeq (sSet 4 (gBin oSub (gVar 4) (gVar 6))) (sSeq (sSet 2 (gBin oAdd (gVar 2) (gIx (gCall0 [] m__law_letters) (gBin oAdd (gVar 3) (gVar 6))))) (sSet 3 (gBin oAdd (gBin oAdd (gVar 3) (gVar 6)) (gOk (.int 1)))))))
def g__law_head_of : GS := (sSeq (sPar [2, 3, 4] (gCons (gOk (.str "")) (gCons (gOk (.int 0)) (gCons (gBin oSub (gOk (.int 26)) (gVar 1)) gNil)))) (sSeq (sFor (gIts oRng1 (gCons (gVar 1) gNil)) (bName 5) b__law_head_of_0) (sRet (gVar 2))))
def m__law_head_of : Mf := runM 7 g__law_head_of
/-! _law_head -/
def g__law_head : GS := (sRetC 2 [] m__law_head_of (gCons (gVar 0) (gCons (gBin oAdd (gOk (.int 2)) (gCall 2 [] m__law_draw (gCons (gVar 0) (gCons (gIx (gFrz (gLst (gCons (gOk (.int 3)) (gCons (gOk (.int 3)) (gCons (gOk (.int 5)) gNil))))) (gCall 2 [] m__law_draw (gCons (gVar 0) (gCons (gOk (.int 3)) gNil)))) gNil)))) gNil)))
def m__law_head : Mf := runM 1 g__law_head
/-! _law_in -/
def g__law_in : GS := (sRet (gArgs oAll (gCons (gFrz (gLc [2] (gIt srcD (gVar 0)) (bName 2) gYes (gBin oIn (gVar 2) (gVar 1)))) gNil)))
def m__law_in : Mf := runM 3 g__law_in
/-! _law_is_set -/
/-! _law_of -/
def g__law_of : GS := (sRet (gM1 oJoin (gOk (.str "")) (gFrz (gLc [2] (gIt srcD (gVar 0)) (bName 2) (gTst (gBin oIn (gVar 2) (gVar 1))) (gVar 2)))))
def m__law_of : Mf := runM 3 g__law_of
/-! _law_off -/
def g__law_off : GS := (sRet (gM1 oJoin (gOk (.str "")) (gFrz (gLc [2] (gIt srcD (gVar 0)) (bName 2) (gTst (gBin oNotIn (gVar 2) (gVar 1))) (gVar 2)))))
def m__law_off : Mf := runM 3 g__law_off
/-! _law_sets -/
/-! _law_side -/
def g__law_side : GS := (sSeq (sSet 2 (gIx (gFrz (gLst (gCons (gOk (.int 2)) (gCons (gOk (.int 3)) (gCons (gOk (.int 4)) gNil))))) (gCall 2 [] m__law_draw (gCons (gVar 0) (gCons (gOk (.int 3)) gNil))))) (sRet (gM1 oJoin (gOk (.str "")) (gFrz (gLc [3] (gIt srcD (gVar 1)) (bName 3) (gTst (gBin oEq (gCall 2 [] m__law_draw (gCons (gVar 0) (gCons (gVar 2) gNil))) (gOk (.int 0)))) (gVar 3))))))
def m__law_side : Mf := runM 4 g__law_side
/-! _law_start -/
def g__law_start : GS := (sRetF (gLst (gCons (gVar 0) (gCons (gOk (.int 0)) (gCons (gOk (.int 0)) (gCons (gOk (.int 7)) gNil))))))
def m__law_start : Mf := runM 1 g__law_start
/-! _law_text -/
/-! _law_texts -/
/-! _law_truth -/
/-! common -/
def g_common : GS := (sRet (gM1 oJoin (gOk (.str "")) (gFrz (gLc [2] (gIt srcD (gVar 0)) (bName 2) (gTst (gBin oIn (gVar 2) (gVar 1))) (gVar 2)))))
def m_common : Mf := runM 3 g_common
/-! is_set -/
def g_is_set : GS := (sSeq (sIf (gTst (gArgs oAny (gCons (gFrz (gLc [1] (gIt srcD (gVar 0)) (bName 1) gYes (gBin oNotIn (gVar 1) (gOk (.str "abcdefghijklmnopqrstuvwxyz"))))) gNil))) (sRet (gOk (.bl false))) sSkip) (sRet (gArgs oAll (gCons (gFrz (gLc [2, 3] (gIts oZip2 (gCons (gSl (gVar 0) gNoPart (gPart (gNeg (gOk (.int 1))))) (gCons (gSl (gVar 0) (gPart (gOk (.int 1))) gNoPart) gNil))) (bTup (bCons (bName 2) (bCons (bName 3) bNil))) gYes (gBin oLt (gVar 2) (gVar 3)))) gNil))))
def m_is_set : Mf := runM 4 g_is_set
/-! subsets -/
/-! ordered -/
def g_ordered : GS := (sRet (gM1 oJoin (gOk (.str "")) (gFrz (gArgsF oSrtX (gCons (gVar 0) gNil)))))
def m_ordered : Mf := runM 1 g_ordered
/-! union -/
def g_union : GS := (sRetC 1 [] m_ordered (gCons (gBin oAdd (gVar 0) (gVar 1)) gNil))
def m_union : Mf := runM 2 g_union
/-! within -/
def g_within : GS := (sRet (gArgs oAll (gCons (gFrz (gLc [2] (gIt srcD (gVar 0)) (bName 2) gYes (gBin oIn (gVar 2) (gVar 1)))) gNil)))
def m_within : Mf := runM 3 g_within
/-! without -/
def g_without : GS := (sRet (gM1 oJoin (gOk (.str "")) (gFrz (gLc [2] (gIt srcD (gVar 0)) (bName 2) (gTst (gBin oNotIn (gVar 2) (gVar 1))) (gVar 2)))))
def m_without : Mf := runM 3 g_without
/-! law_k01 -/
/-! is_saying -/
def g_is_saying : GS := (sSeq (sAsg (bTup (bCons (bName 2) (bCons (bName 3) (bCons (bName 4) bNil)))) (gVar 0)) (sSeq (sIf (gTst (gBind1 (oNotInKd [("tells", ">"), ("parts", ">>")]) (gVar 2))) (sRet (gOk (.bl false))) sSkip) (sRet (gArgs oAll (gCons (gFrz (gLc [5] (gIt srcD (gTup (gCons (gVar 3) (gCons (gVar 4) gNil)))) (bName 5) gYes (gAndV (gCall 1 [] m_is_set (gCons (gVar 5) gNil)) (gCall 2 [] m_within (gCons (gVar 5) (gCons (gVar 1) gNil)))))) gNil)))))
def m_is_saying : Mf := runM 6 g_is_saying
/-! looked -/
def g_looked : GS := (sIf (gNot (gTst (gCall 2 [] m_is_saying (gCons (gVar 0) (gCons (gVar 1) gNil))))) (sRaise "BadSaying" 1 [("at", 1)] "word" "BadSaying" (gCons (gVar 2) gNil)) sSkip)
def m_looked : Mf := runM 3 g_looked
/-! side_in -/
/-! read_saying -/
/-! _law_asked -/
/-! _law_side_of -/
/-! _law_read -/
/-! _law_saying -/
def g__law_saying : GS := (sSeq (sSet 2 (gIx (gFrz (gLst (gCons (gOk (.str "tells")) (gCons (gOk (.str "tells")) (gCons (gOk (.str "parts")) gNil))))) (gCall 2 [] m__law_draw (gCons (gVar 0) (gCons (gOk (.int 3)) gNil))))) (sSeq (sSet 3 (gCall 2 [] m__law_side (gCons (gVar 0) (gCons (gVar 1) gNil)))) (sSeq (sSet 4 (gCall 2 [] m__law_side (gCons (gVar 0) (gCons (gVar 1) gNil)))) (sSeq (sIf (gAnd (gTst (gBin oEq (gVar 4) (gOk (.str "")))) (gTst (gBin oEq (gCall 2 [] m__law_draw (gCons (gVar 0) (gCons (gOk (.int 2)) gNil))) (gOk (.int 0))))) (sSet 4 (gIx (gVar 1) (gCall 2 [] m__law_draw (gCons (gVar 0) (gCons (gArgs oLen (gCons (gVar 1) gNil)) gNil))))) sSkip) (sRet (gTup (gCons (gVar 2) (gCons (gVar 3) (gCons (gVar 4) gNil)))))))))
def m__law_saying : Mf := runM 5 g__law_saying
/-! _law_spoilt -/
/-! _law_written -/
/-! side_text -/
/-! spelled -/
/-! law_k02 -/
/-! _law_heap -/
/-! idle -/
/-! cells_of -/
/-! wanted -/
/-! clash_of_parts -/
/-! clash_of_tells -/
/-! rising -/
/-! clash -/
/-! keeps -/
/-! law_k03 -/
/-! Book___eq__ -/
/-! Book___init__ -/
def b_Book___init___0 : GS := (sIf (gNot (gTst (gCall 2 [] m_is_saying (gCons (gVar 4) (gCons (gVar 1) gNil))))) (sRaise "BadSaying" 1 [("at", 1)] "word" "BadSaying" (gCons (gVar 3) gNil)) sSkip)
def b_Book___init___1 : GS := (sSetd 5 (gVar 4) (gOk (.bl true)))
def g_Book___init__ : GS := (sSeq (sIf (gOr (gNot (gTst (gCall 1 [] m_is_set (gCons (gVar 1) gNil)))) (gNot (gTst (gChain oLe oLe (gOk (.int 2)) (gArgs oLen (gCons (gVar 1) gNil)) (gOk (.int 6)))))) (sRaise "BadColumns" 0 [] "word" "BadColumns" gNil) sSkip) (sSeq (sFor (gIts (oEnum 0) (gCons (gVar 2) gNil)) (bTup (bCons (bName 3) (bCons (bName 4) bNil))) b_Book___init___0) (sSeq (sSetF 5 gDnew) (sSeq (sFor (gIt srcD (gVar 2)) (bName 4) b_Book___init___1) (sSeq (sIf (gLendT (gTst (gBin oGt (gArgs oLenT (gCons (gVar 5) gNil)) (gOk (.int 12))))) (sRaise "Full" 1 [("most", 1)] "word" "Full" (gCons (gOk (.int 12)) gNil)) sSkip) (sSeq (sSelf ["Book"] "letters" (gVar 1)) (sSelfL ["Book"] "said" (gLendF (gArgsF oListT (gCons (gVar 5) gNil))))))))))
def m_Book___init__ : Mf := runI 6 "Book" g_Book___init__
/-! Book___len__ -/
/-! Book_has -/
/-! Book_sayings -/
def g_Book_sayings : GS := (sRetF (gArgsF oList (gCons (gBind1 (oFld ["Book"] "said") (gVar 0)) gNil)))
def m_Book_sayings : Mf := runM 1 g_Book_sayings
/-! Book___repr__ -/
/-! Book_page_rows -/
/-! Book___str__ -/
/-! Book_alone -/
/-! Book_columns -/
/-! _law_page_rows -/
/-! _law_is_book -/
/-! _law_unlike -/
def b__law_unlike_0 : GS := (sIf (gLendT (gTst (gBin oNotIn (gVar 2) (gVar 1)))) (sLm 1 fApp (gCons (gVar 2) gNil)) sSkip)
def g__law_unlike : GS := (sSeq (sSetF 1 (gLst gNil)) (sSeq (sFor (gIt srcD (gVar 0)) (bName 2) b__law_unlike_0) (sRetV 1)))
def m__law_unlike : Mf := runM 3 g__law_unlike
/-! _law_said -/
def g__law_said : GS := (sRetC 1 [] m__law_unlike (gCons (gFrz (gLc [3] (gIts oRng1 (gCons (gCall 2 [] m__law_draw (gCons (gVar 0) (gCons (gBin oAdd (gVar 2) (gOk (.int 1))) gNil))) gNil)) (bName 3) gYes (gCall 2 [] m__law_saying (gCons (gVar 0) (gCons (gVar 1) gNil))))) gNil))
def m__law_said : Mf := runM 4 g__law_said
/-! law_k07 -/
/-! _law_columns -/
/-! _law_made -/
/-! _law_many -/
/-! _law_odd -/
/-! law_k08 -/
/-! _law_cut_pair -/
def b__law_cut_pair_0 : GS := (sSeq (sSet 8 (gCall 2 [] m__law_of (gCons (gVar 7) (gCons (gVar 6) gNil)))) (sIf (gAnd (gTst (gBin oEq (gCall 2 [] m__law_of (gCons (gVar 7) (gCons (gVar 4) gNil))) (gOk (.str "")))) (gAnd (gTst (gBin oNe (gVar 8) (gOk (.str "")))) (gTst (gBin oNe (gVar 8) (gVar 7))))) (sRet (gTup (gCons (gVar 7) (gCons (gVar 8) gNil)))) sSkip))
def b__law_cut_pair_1 : GS := (sFor (gIt srcD (gVar 2)) (bName 7) b__law_cut_pair_0)
def b__law_cut_pair_2 : GS := (sFor (gIt srcD (gIfE (gTst (gBin oEq (gVar 3) (gOk (.str "tells")))) (gFrz (gArgsF oListA (gCons (gVar 5) gNil))) (gFrz (gLst (gCons (gVar 5) gNil))))) (bName 6) b__law_cut_pair_1)
def g__law_cut_pair : GS := (sSeq (sFor (gIt srcD (gVar 1)) (bTup (bCons (bName 3) (bCons (bName 4) (bCons (bName 5) bNil)))) b__law_cut_pair_2) (sRet (gOk .non)))
def m__law_cut_pair : Mf := runM 9 g__law_cut_pair
/-! _law_blocks -/
def b__law_blocks_0 : GS := (sSeq (sAsg (bTup (bCons (bName 6) (bCons (bName 7) bNil))) (gVar 5)) (sSeq (sSet 4 (gBin oAdd (gFrz (gLc [8] (gIt srcD (gVar 4)) (bName 8) (gTst (gBin oNe (gVar 8) (gVar 6))) (gVar 8))) (gFrz (gLst (gCons (gVar 7) (gCons (gCall 2 [] m__law_off (gCons (gVar 6) (gCons (gVar 7) gNil))) gNil)))))) (sSet 5 (gCall 3 [] m__law_cut_pair (gCons (gVar 0) (gCons (gVar 1) (gCons (gVar 4) gNil)))))))
def g__law_blocks : GS := (sSeq (sSet 3 (gCall 2 [] m__law_off (gCons (gVar 0) (gCons (gVar 2) gNil)))) (sSeq (sIf (gTst (gBin oEq (gVar 3) (gOk (.str "")))) (sRetF (gLst gNil)) sSkip) (sSeq (sSet 4 (gFrz (gLst (gCons (gVar 3) gNil)))) (sSeq (sSet 5 (gCall 3 [] m__law_cut_pair (gCons (gVar 0) (gCons (gVar 1) (gCons (gVar 4) gNil))))) (sSeq (sWhile (gTst (gBin oIsNot (gVar 5) (gOk .non))) b__law_blocks_0) (sRetF (gArgsF oSort (gCons (gVar 4) gNil))))))))
def m__law_blocks : Mf := runM 9 g__law_blocks
/-! _law_tells -/
def b__law_tells_0 : GS := (sIf (gTst (gBin oIn (gVar 8) (gVar 3))) (sSet 4 (gBin oAdd (gVar 4) (gVar 8))) sSkip)
def b__law_tells_1 : GS := (sIf (gTst (gBin oEq (gVar 5) (gOk (.str "tells")))) (sFor (gIt srcD (gCall 2 [] m__law_off (gCons (gVar 7) (gCons (gVar 6) gNil)))) (bName 8) b__law_tells_0) sSkip)
def g__law_tells : GS := (sSeq (sSet 3 (gCall 3 [] m__law_blocks (gCons (gVar 0) (gCons (gVar 1) (gCons (gVar 2) gNil))))) (sSeq (sSet 4 (gVar 2)) (sSeq (sFor (gIt srcD (gVar 1)) (bTup (bCons (bName 5) (bCons (bName 6) (bCons (bName 7) bNil)))) b__law_tells_1) (sRetC 2 [] m__law_of (gCons (gVar 0) (gCons (gVar 4) gNil))))))
def m__law_tells : Mf := runM 9 g__law_tells
/-! _law_follows -/
def g__law_follows : GS := (sSeq (sAsg (bTup (bCons (bName 3) (bCons (bName 4) (bCons (bName 5) bNil)))) (gVar 2)) (sSeq (sIf (gTst (gBin oEq (gVar 3) (gOk (.str "tells")))) (sRetC 2 [] m__law_in (gCons (gVar 5) (gCons (gCall 3 [] m__law_tells (gCons (gVar 0) (gCons (gVar 1) (gCons (gVar 4) gNil)))) gNil))) sSkip) (sRet (gArgs oAll (gCons (gFrz (gLc [6] (gIt srcD (gCall 3 [] m__law_blocks (gCons (gVar 0) (gCons (gVar 1) (gCons (gVar 4) gNil))))) (bName 6) gYes (gBin oInT (gCall 2 [] m__law_of (gCons (gVar 6) (gCons (gVar 5) gNil))) (gTup (gCons (gOk (.str "")) (gCons (gVar 6) gNil)))))) gNil)))))
def m__law_follows : Mf := runM 7 g__law_follows
/-! cut_once -/
def b_cut_once_0 : GS := (sSeq (sSet 6 (gCall 2 [] m_common (gCons (gVar 5) (gCons (gVar 3) gNil)))) (sIf (gAnd (gTst (gBin oEq (gCall 2 [] m_common (gCons (gVar 5) (gCons (gVar 2) gNil))) (gOk (.str "")))) (gTst (gBin oNotInT (gVar 6) (gTup (gCons (gOk (.str "")) (gCons (gVar 5) gNil)))))) (sRet (gTup (gCons (gVar 4) (gCons (gVar 2) (gCons (gVar 3) gNil))))) sSkip))
def b_cut_once_1 : GS := (sFor (gIts (oEnum 0) (gCons (gVar 0) gNil)) (bTup (bCons (bName 4) (bCons (bName 5) bNil))) b_cut_once_0)
def g_cut_once : GS := (sSeq (sFor (gIt srcD (gVar 1)) (bTup (bCons (bName 2) (bCons (bName 3) bNil))) b_cut_once_1) (sRet (gOk .non)))
def m_cut_once : Mf := runM 7 g_cut_once
/-! cutters -/
def b_cutters_0 : GS := (sIf (gTst (gBin oEq (gVar 2) (gOk (.str "tells")))) (sLm 1 fExt (gCons (gFrz (gLc [5] (gIt srcD (gVar 4)) (bName 5) gYes (gTup (gCons (gVar 3) (gCons (gVar 5) gNil))))) gNil)) (sLm 1 fApp (gCons (gTup (gCons (gVar 3) (gCons (gVar 4) gNil))) gNil)))
def g_cutters : GS := (sSeq (sSetF 1 (gLst gNil)) (sSeq (sFor (gIt srcD (gBind1 (oFld ["Book"] "said") (gVar 0))) (bTup (bCons (bName 2) (bCons (bName 3) (bCons (bName 4) bNil)))) b_cutters_0) (sRetV 1)))
def m_cutters : Mf := runM 6 g_cutters
/-! blocks_of -/
def b_blocks_of_0 : GS := (sSeq (sAsg (bTup (bCons (bName 6) (bCons (bName 7) (bCons (bName 8) bNil)))) (gVar 5)) (sSeq (sSet 9 (gLend (gIx (gVar 3) (gVar 6)))) (sSeq (sSlc 3 (gPart (gVar 6)) (gPart (gBin oAdd (gVar 6) (gOk (.int 1)))) (gFrz (gLst (gCons (gCall 2 [] m_common (gCons (gVar 9) (gCons (gVar 8) gNil))) (gCons (gCall 2 [] m_without (gCons (gVar 9) (gCons (gVar 8) gNil))) gNil))))) (sSet 5 (gLend (gCall 2 [] m_cut_once (gCons (gVar 3) (gCons (gVar 4) gNil))))))))
def g_blocks_of : GS := (sSeq (sSet 2 (gCall 2 [] m_without (gCons (gBind1 (oFld ["Book"] "letters") (gVar 0)) (gCons (gVar 1) gNil)))) (sSeq (sSetF 3 (gIfF (gTst (gBin oNe (gVar 2) (gOk (.str "")))) (gLst (gCons (gVar 2) gNil)) (gLst gNil))) (sSeq (sSet 4 (gCall 1 [] m_cutters (gCons (gVar 0) gNil))) (sSeq (sSet 5 (gLend (gCall 2 [] m_cut_once (gCons (gVar 3) (gCons (gVar 4) gNil))))) (sSeq (sWhile (gTst (gBin oIsNot (gVar 5) (gOk .non))) b_blocks_of_0) (sRetV 3))))))
def m_blocks_of : Mf := runM 10 g_blocks_of
/-! made_of -/
def g_made_of : GS := (sRet (gArgs oAll (gCons (gFrz (gLc [2] (gIt srcD (gVar 0)) (bName 2) gYes (gBin oInT (gCall 2 [] m_common (gCons (gVar 2) (gCons (gVar 1) gNil))) (gTup (gCons (gOk (.str "")) (gCons (gVar 2) gNil)))))) gNil)))
def m_made_of : Mf := runM 3 g_made_of
/-! need_columns -/
def b_need_columns_0 : GS := (sIf (gTst (gBin oNotIn (gVar 2) (gBind1 (oFld ["Book"] "letters") (gVar 0)))) (sRaise "NoColumn" 1 [("name", 1)] "word" "NoColumn" (gCons (gVar 2) gNil)) sSkip)
def g_need_columns : GS := (sFor (gIt srcD (gVar 1)) (bName 2) b_need_columns_0)
def m_need_columns : Mf := runM 3 g_need_columns
/-! teller_of -/
def b_teller_of_0 : GS := (sIf (gAnd (gTst (gBin oEq (gVar 2) (gOk (.str "tells")))) (gAnd (gTst (gBin oIn (gVar 1) (gVar 4))) (gTst (gBin oNotIn (gVar 1) (gVar 3))))) (sRet (gTup (gCons (gVar 2) (gCons (gVar 3) (gCons (gVar 4) gNil))))) sSkip)
def g_teller_of : GS := (sSeq (sFor (gIt srcD (gBind1 (oFld ["Book"] "said") (gVar 0))) (bTup (bCons (bName 2) (bCons (bName 3) (bCons (bName 4) bNil)))) b_teller_of_0) (sRet (gOk .non)))
def m_teller_of : Mf := runM 5 g_teller_of
/-! told -/
def g_told : GS := (sSeq (sDrop (gCall 2 [] m_need_columns (gCons (gVar 0) (gCons (gVar 1) gNil)))) (sSeq (sSet 2 (gFrz (gLc [3] (gIt srcD (gCall 2 [] m_blocks_of (gCons (gVar 0) (gCons (gVar 1) gNil)))) (bName 3) (gTst (gBin oEq (gArgs oLen (gCons (gVar 3) gNil)) (gOk (.int 1)))) (gVar 3)))) (sRetC 2 [] m_union (gCons (gVar 1) (gCons (gM1 oJoin (gOk (.str "")) (gFrz (gLc [4] (gIt srcD (gVar 2)) (bName 4) (gTst (gBin oIsNot (gCall 2 [] m_teller_of (gCons (gVar 0) (gCons (gVar 4) gNil))) (gOk .non))) (gVar 4)))) gNil)))))
def m_told : Mf := runM 5 g_told
/-! follows -/
def g_follows : GS := (sSeq (sDrop (gCall 2 [(.int 0)] m_looked (gCons (gVar 1) (gCons (gBind1 (oFld ["Book"] "letters") (gVar 0)) gNil)))) (sSeq (sAsg (bTup (bCons (bName 2) (bCons (bName 3) (bCons (bName 4) bNil)))) (gVar 1)) (sSeq (sIf (gTst (gBin oEq (gVar 2) (gOk (.str "tells")))) (sRetC 2 [] m_within (gCons (gVar 4) (gCons (gCall 2 [] m_told (gCons (gVar 0) (gCons (gVar 3) gNil))) gNil))) sSkip) (sRetC 2 [] m_made_of (gCons (gCall 2 [] m_blocks_of (gCons (gVar 0) (gCons (gVar 3) gNil))) (gCons (gVar 4) gNil))))))
def m_follows : Mf := runM 5 g_follows
/-! parted -/
/-! _law_right -/
/-! law_k10 -/
/-! against -/
/-! chain -/
/-! _law_asked_k11 -/
/-! _law_odd_k11 -/
/-! law_k11 -/
/-! Book_more -/
/-! law_k13 -/
/-! _law_cells -/
def g__law_cells : GS := (sRet (gArgs oTuple (gCons (gFrz (gLc [3] (gIts oRng1 (gCons (gArgs oLen (gCons (gVar 1) gNil)) gNil)) (bName 3) (gTst (gBin oIn (gIx (gVar 1) (gVar 3)) (gVar 2))) (gIx (gVar 0) (gVar 3)))) gNil)))
def m__law_cells : Mf := runM 4 g__law_cells
/-! _law_crossed -/
def g__law_crossed : GS := (sRet (gArgs oTuple (gCons (gFrz (gLc [4] (gIts oRng1 (gCons (gArgs oLen (gCons (gVar 2) gNil)) gNil)) (bName 4) gYes (gIfE (gTst (gBin oIn (gIx (gVar 2) (gVar 4)) (gVar 3))) (gIx (gVar 0) (gVar 4)) (gIx (gVar 1) (gVar 4))))) gNil)))
def m__law_crossed : Mf := runM 5 g__law_crossed
/-! _law_clash -/
def b__law_clash_0 : GS := (sSeq (sSet 8 (gIx (gVar 0) (gVar 6))) (sSeq (sSet 9 (gIx (gVar 0) (gVar 7))) (sIf (gTst (gBin oEq (gCall 3 [] m__law_cells (gCons (gVar 8) (gCons (gVar 1) (gCons (gVar 4) gNil)))) (gCall 3 [] m__law_cells (gCons (gVar 9) (gCons (gVar 1) (gCons (gVar 4) gNil)))))) (sSeq (sSet 10 (gBin oNe (gCall 3 [] m__law_cells (gCons (gVar 8) (gCons (gVar 1) (gCons (gVar 5) gNil)))) (gCall 3 [] m__law_cells (gCons (gVar 9) (gCons (gVar 1) (gCons (gVar 5) gNil)))))) (sSeq (sIf (gAnd (gTst (gBin oEq (gVar 3) (gOk (.str "tells")))) (gAnd (gTst (gBin oGt (gVar 7) (gVar 6))) (gTst (gVar 10)))) (sRet (gTup (gCons (gVar 8) (gCons (gVar 9) gNil)))) sSkip) (sSeq (sSet 11 (gCall 4 [] m__law_crossed (gCons (gVar 8) (gCons (gVar 9) (gCons (gVar 1) (gCons (gBin oAdd (gVar 4) (gVar 5)) gNil)))))) (sIf (gAnd (gTst (gBin oEq (gVar 3) (gOk (.str "parts")))) (gTst (gBin oNotIn (gVar 11) (gVar 0)))) (sRet (gTup (gCons (gVar 8) (gCons (gVar 9) (gCons (gVar 11) gNil))))) sSkip)))) sSkip)))
def b__law_clash_1 : GS := (sFor (gIts oRng1 (gCons (gArgs oLen (gCons (gVar 0) gNil)) gNil)) (bName 7) b__law_clash_0)
def g__law_clash : GS := (sSeq (sAsg (bTup (bCons (bName 3) (bCons (bName 4) (bCons (bName 5) bNil)))) (gVar 2)) (sSeq (sFor (gIts oRng1 (gCons (gArgs oLen (gCons (gVar 0) gNil)) gNil)) (bName 6) b__law_clash_1) (sRet (gOk .non))))
def m__law_clash : Mf := runM 12 g__law_clash
/-! _law_rising -/
def g__law_rising : GS := (sRetF (gArgsF oSrtT (gCons (gFrz (gLc [1] (gIt srcD (gVar 0)) (bName 1) gYes (gArgs oTuple (gCons (gVar 1) gNil)))) gNil)))
def m__law_rising : Mf := runM 2 g__law_rising
/-! _law_whole -/
def g__law_whole : GS := (sRet (gAndV (gIsi "int" (gVar 0)) (gNotV (gIsi "bool" (gVar 0)))))
def m__law_whole : Mf := runM 1 g__law_whole
/-! _law_is_table -/
def b__law_is_table_0 : GS := (sSeq (sSet 3 (gAndV (gIsi "tuple" (gVar 2)) (gBin oEq (gArgs oLen (gCons (gVar 2) gNil)) (gVar 1)))) (sIf (gOr (gNot (gTst (gVar 3))) (gNot (gTst (gArgs oAll (gCons (gFrz (gLc [4] (gIt srcD (gVar 2)) (bName 4) gYes (gAndV (gCall 1 [] m__law_whole (gCons (gVar 4) gNil)) (gChain oLe oLe (gOk (.int 0)) (gVar 4) (gOk (.int 999)))))) gNil))))) (sRet (gOk (.bl false))) sSkip))
def g__law_is_table : GS := (sSeq (sIf (gOr (gNot (gTst (gIsi "list" (gVar 0)))) (gTst (gBin oNe (gVar 0) (gCall 1 [] m__law_rising (gCons (gVar 0) gNil))))) (sRet (gOk (.bl false))) sSkip) (sSeq (sFor (gIt srcD (gVar 0)) (bName 2) b__law_is_table_0) (sRet (gOk (.bl true)))))
def m__law_is_table : Mf := runM 5 g__law_is_table
/-! _law_keeps_all -/
def g__law_keeps_all : GS := (sRet (gArgs oAll (gCons (gFrz (gLc [3] (gIt srcD (gVar 2)) (bName 3) gYes (gBin oIs (gCall 3 [] m__law_clash (gCons (gVar 0) (gCons (gVar 1) (gCons (gVar 3) gNil)))) (gOk .non)))) gNil)))
def m__law_keeps_all : Mf := runM 4 g__law_keeps_all
/-! against_k17 -/
def b_against_k17_0 : GS := (sAugL 7 (gFrz (gLendF (gLc [9] (gIt srcD (gVar 7)) (bName 9) gYes (gCall 2 [] m_union (gCons (gVar 9) (gCons (gVar 8) gNil)))))))
def g_against_k17 : GS := (sSeq (sIf (gTst (gCall 2 [] m_follows (gCons (gVar 0) (gCons (gVar 1) gNil)))) (sRet (gOk .non)) sSkip) (sSeq (sAsg (bTup (bCons (bName 2) (bCons (bName 3) (bCons (bName 4) bNil)))) (gVar 1)) (sSeq (sSet 5 (gCall 2 [] m_told (gCons (gVar 0) (gCons (gVar 3) gNil)))) (sSeq (sSet 6 (gFrz (gLc [8] (gIt srcD (gCall 2 [] m_blocks_of (gCons (gVar 0) (gCons (gVar 3) gNil)))) (bName 8) (gNot (gTst (gCall 2 [] m_within (gCons (gVar 8) (gCons (gVar 5) gNil))))) (gVar 8)))) (sSeq (sSetF 7 (gLst (gCons (gOk (.str "")) gNil))) (sSeq (sFor (gIt srcD (gVar 6)) (bName 8) b_against_k17_0) (sRetF (gLendF (gArgsF oSort (gCons (gFrz (gLc [9] (gIt srcD (gVar 7)) (bName 9) gYes (gArgs oTuple (gCons (gFrz (gLc [10] (gIt srcD (gBind1 (oFld ["Book"] "letters") (gVar 0))) (bName 10) gYes (gArgs oInt (gCons (gBin oIn (gVar 10) (gVar 9)) gNil)))) gNil)))) gNil))))))))))
def m_against_k17 : Mf := runM 11 g_against_k17
/-! law_k17 -/
def b_law_k17_0 : GS := (sSeq (sSetX 8 2 [] m_against_k17 (gCons (gVar 4) (gCons (gVar 6) gNil))) (sIf (gTst (gCall 3 [] m__law_follows (gCons (gVar 2) (gCons (gVar 3) (gCons (gVar 6) gNil))))) (sIf (gLendT (gTst (gBin oIsNot (gVar 8) (gOk .non)))) (sRet (gOk (.bl false))) sSkip) (sSeq (sIf (gLendT (gOr (gNot (gTst (gCall 2 [] m__law_is_table (gCons (gVar 8) (gCons (gArgs oLen (gCons (gVar 2) gNil)) gNil))))) (gOr (gTst (gBin oGt (gArgs oLen (gCons (gVar 8) gNil)) (gOk (.int 64)))) (gNot (gTst (gCall 3 [] m__law_keeps_all (gCons (gVar 8) (gCons (gVar 2) (gCons (gVar 3) gNil))))))))) (sRet (gOk (.bl false))) sSkip) (sSeq (sIf (gLendT (gTst (gBin oIs (gCall 3 [] m__law_clash (gCons (gVar 8) (gCons (gVar 2) (gCons (gVar 6) gNil)))) (gOk .non)))) (sRet (gOk (.bl false))) sSkip) (sLm0 8 fun _ => some [])))))
def b_law_k17_1 : GS := (sSeq (sSet 6 (gCall 2 [] m__law_saying (gCons (gVar 1) (gCons (gVar 2) gNil)))) (sFor (gIts oRng1 (gCons (gOk (.int 2)) gNil)) (bName 7) b_law_k17_0))
def g0_law_k17 : GS := (sSetF 1 (gCallF 1 [] m__law_start (gCons (gVar 0) gNil)))
def g_law_k17 : GS := (sSeq (sSet 2 (gCall 1 [] m__law_head (gCons (gVar 1) gNil))) (sSeq (sSet 3 (gCall 3 [] m__law_said (gCons (gVar 1) (gCons (gVar 2) (gCons (gOk (.int 8)) gNil))))) (sSeq (sSet 4 (gFrz (gCallF 2 [] m_Book___init__ (gCons (gVar 2) (gCons (gVar 3) gNil))))) (sSeq (sFor (gIts oRng1 (gCons (gOk (.int 5)) gNil)) (bName 5) b_law_k17_1) (sRet (gBin oEq (gCall 1 [] m_Book_sayings (gCons (gBind1 (oSelf "Book" "sayings") (gVar 4)) gNil)) (gVar 3)))))))
/-! _law_least -/
/-! _law_all_keys -/
/-! _law_all_lean -/
/-! least_of -/
/-! keys -/
/-! lean_sayings -/
/-! law_k19 -/
/-! stronger -/
/-! alike -/
/-! _law_compared -/
/-! _law_others -/
/-! _law_left -/
/-! _law_more -/
/-! others_of -/
/-! lean -/
/-! spare -/
/-! law_k20 -/
/-! blocks_within -/
/-! part_keys -/
/-! first_fault -/
/-! fault -/
/-! _law_asked_k23 -/
/-! _law_due -/
/-! law_k23 -/
/-! _law_asked_k24 -/
/-! greatest -/
/-! split_off -/
/-! _law_off_by -/
/-! law_k24 -/
/-! _law_good_fault -/
/-! law_k25 -/
/-! looked_parts -/
/-! told_by_parts -/
/-! tells_lost -/
/-! _law_asked_k32 -/
/-! _law_bad_place -/
/-! _law_bent_split -/
/-! _law_grown_k32 -/
/-! _law_split -/
/-! law_k32 -/
/-! _law_lean -/
/-! read_lean -/
/-! _law_six_right -/
/-! read_parted -/
/-! law_k36 -/
/-! is_column -/
/-! Book_wider -/
/-! _law_right_k72 -/
/-! law_k72 -/
end Mi
end
end
section
/-! Sets of columns. -/
namespace Mi
open PySem L2 Dn
theorem sz_line : sizeLine = 16777216 := by decide
def commonL (a b : Tx) : Tx := a.filter fun c => decide (c ∈ b)
def withoutL (a b : Tx) : Tx := a.filter fun c => !decide (c ∈ b)
def withinL (a b : Tx) : Bool := a.all fun c => decide (c ∈ b)
/-! ### strictly rising rows of codes -/
abbrev Ris (l : Tx) : Prop := l.Pairwise (· < ·)
theorem Ris.nodup {l : Tx} (h : Ris l) : l.Nodup := h.imp fun h => Nat.ne_of_lt h
theorem ris_ext {a b : Tx} (ha : Ris a) (hb : Ris b) (h : ∀ c, c ∈ a ↔ c ∈ b) : a = b :=
  List.Perm.eq_of_pairwise (le := (· < ·)) (fun x y _ _ h1 h2 => absurd h1 (Nat.lt_asymm h2)) ha hb ((List.perm_ext_iff_of_nodup ha.nodup hb.nodup).mpr h)
def ins (c : Nat) : Tx → Tx
  | [] => [c]
  | d :: l => if c < d then c :: d :: l else if c = d then d :: l else d :: ins c l
def ordL (x : Tx) : Tx := x.foldr ins []
theorem mem_ins {c e : Nat} : ∀ {l : Tx}, e ∈ ins c l ↔ e = c ∨ e ∈ l
  | [] => by simp [ins]
  | d :: l => by
    unfold ins
    split
    · simp
    · split
      · rename_i h; subst h; simp
      · rw [List.mem_cons, mem_ins (l := l), List.mem_cons]
        exact ⟨fun h => by rcases h with h | h | h <;> simp [h], fun h => by rcases h with h | h | h <;> simp [h]⟩
theorem ris_ins {c : Nat} : ∀ {l : Tx}, Ris l → Ris (ins c l)
  | [], _ => by simp [ins]
  | d :: l, h => by
    obtain ⟨h1, h2⟩ := List.pairwise_cons.mp h
    unfold ins
    split
    · rename_i hc
      exact List.pairwise_cons.mpr ⟨fun a ha => (List.mem_cons.mp ha).elim (fun e => e ▸ hc) fun ha => Nat.lt_trans hc (h1 a ha), h⟩
    · split
      · exact h
      · rename_i n1 n2
        refine List.pairwise_cons.mpr ⟨fun a ha => ?_, ris_ins h2⟩
        rcases mem_ins.mp ha with e | e
        · rw [e]; omega
        · exact h1 a e
theorem ins_len {c : Nat} : ∀ {l : Tx}, (ins c l).length ≤ l.length + 1
  | [] => Nat.le_refl _
  | d :: l => by
    unfold ins
    split
    · simp
    · split
      · simp
      · have := ins_len (c := c) (l := l); simp; omega
theorem ris_ordL : ∀ x : Tx, Ris (ordL x)
  | [] => List.Pairwise.nil
  | c :: x => ris_ins (ris_ordL x)
@[simp] theorem mem_ordL {e : Nat} : ∀ {x : Tx}, e ∈ ordL x ↔ e ∈ x
  | [] => Iff.rfl
  | c :: x => by
    show e ∈ ins c (ordL x) ↔ _
    rw [mem_ins, mem_ordL, List.mem_cons]
theorem ordL_len : ∀ x : Tx, (ordL x).length ≤ x.length
  | [] => Nat.le_refl _
  | c :: x => by
    have h1 := ins_len (c := c) (l := ordL x)
    have h2 := ordL_len x
    show (ins c (ordL x)).length ≤ x.length + 1
    omega
def unionL (a b : Tx) : Tx := ordL (a ++ b)
theorem addK_nodup {κ : Type} [DecidableEq κ] {k : κ} {ks : List κ} (h : ks.Nodup) : (Sk.addK k ks).Nodup := by
  unfold Sk.addK
  split
  · exact h
  · rename_i n; exact List.nodup_cons.mpr ⟨n, h⟩
theorem addAll_nodup {κ : Type} [DecidableEq κ] : ∀ {r ks : List κ}, ks.Nodup → (Sk.addAll ks r).Nodup
  | [], _, h => h
  | k :: r, ks, h => addAll_nodup (r := r) (addK_nodup (k := k) h)
abbrev sg (c : Nat) : Str := sx [c]
theorem sg_inj {c d : Nat} (h : sg c = sg d) : c = d := by have := sx_inj h; simpa using this
theorem srt_signs (x : Tx) : srtS (Sk.addAll [] (Sk.signs (sx x))) = (ordL x).map sg := by
  have hs : Sk.signs (sx x) = x.map sg := by simp [Sk.signs, sx]
  rw [hs]
  have hp : (Sk.addAll [] (x.map sg)).Perm ((ordL x).map sg) := by
    refine (List.perm_ext_iff_of_nodup (addAll_nodup List.nodup_nil) ?_).mpr fun a => ?_
    · exact List.pairwise_map.mpr ((ris_ordL x).nodup.imp fun {a b} h e => h (sg_inj e))
    · rw [Sk.mem_addAll]
      simp
  rw [srtS_perm hp]
  unfold srtS
  refine List.mergeSort_of_pairwise (List.pairwise_map.mpr ((ris_ordL x).imp fun {a b} h => ?_))
  simp only [leS, sg, sx_toList, decide_eq_true_eq]
  exact List.le_of_lt (List.Lex.rel h)
theorem oSrtX_eq {x : Tx} (h : x.length + 1 < 4096) : oSrtX [T x] = some (.lst ((ordL x).map fun c => T [c])) := by
  show (if (sx x).cps.size + 1 < scanBound then some (Ow.lst ((srtS (Sk.addAll [] (Sk.signs (sx x)))).map Dt.str)) else none) = _
  rw [sx_size, if_pos (by simpa [scanBound] using h), srt_signs, List.map_map]
  rfl
theorem m_ordered_eq {x : Tx} {w : Ds} (h : x.length + 1 < 4096) : m_ordered [T x] w = .dat (T (ordL x)) w := by
  have hl := ordL_len x
  simp [m_ordered, g_ordered, oSrtX_eq h, Ow.dt, join_signs (ordL x) (by omega)]
theorem m_union_eq {a b : Tx} {w : Ds} (h : a.length + b.length + 1 < 4096) : m_union [T a, T b] w = .dat (T (unionL a b)) w := by
  have e : m_ordered [T (a ++ b)] w = .dat (T (unionL a b)) w := m_ordered_eq (by simp; omega)
  simp [m_union, g_union, oAdd, sz_line, show a.length + b.length ≤ 16777216 by omega, e]
theorem m_common_eq {a b : Tx} {w : Ds} (ha : a.length ≤ 16777216) : m_common [T a, T b] w = .dat (T (commonL a b)) w := by
  have h := gLc_text (vs := [2]) (i := 2) (gi := gVar 0) (gt := gTst (gBin oIn (gVar 2) (gVar 1))) (ge := gVar 2) (env := [.dat (T a), .dat (T b), .un]) (w := w) (w1 := w) a (fun c => decide (c ∈ b)) (fun c => T [c]) (by simp) (by simp) (by intro c hc; simp) (by intro c hc _; simp) (by rw [sz_line]; exact ha)
  have hl : (a.filter fun c => decide (c ∈ b)).length ≤ 16777216 := Nat.le_trans (List.length_filter_le _ _) ha
  simp [m_common, g_common, h, Ow.dt, join_signs _ hl, commonL]
theorem m_without_eq {a b : Tx} {w : Ds} (ha : a.length ≤ 16777216) : m_without [T a, T b] w = .dat (T (withoutL a b)) w := by
  have h := gLc_text (vs := [2]) (i := 2) (gi := gVar 0) (gt := gTst (gBin oNotIn (gVar 2) (gVar 1))) (ge := gVar 2) (env := [.dat (T a), .dat (T b), .un]) (w := w) (w1 := w) a (fun c => !decide (c ∈ b)) (fun c => T [c]) (by simp) (by simp) (by intro c hc; simp) (by intro c hc _; simp) (by rw [sz_line]; exact ha)
  have hl : (a.filter fun c => !decide (c ∈ b)).length ≤ 16777216 := Nat.le_trans (List.length_filter_le _ _) ha
  simp only [m_without, g_without, runM_app, List.map, List.length, List.replicate, List.cons_append, List.nil_append, Nat.reduceAdd, Nat.reduceSub, sRet_app, gM1_app, gOk_app, bind_ok, gFrz_app, h, Ow.dt, join_signs _ hl, withoutL]
theorem m_within_eq {a b : Tx} {w : Ds} (ha : a.length ≤ 16777216) : m_within [T a, T b] w = .dat (.bl (withinL a b)) w := by
  have h := gLc_text (vs := [2]) (i := 2) (gi := gVar 0) (gt := gYes) (ge := gBin oIn (gVar 2) (gVar 1)) (env := [.dat (T a), .dat (T b), .un]) (w := w) (w1 := w) a (fun _ => true) (fun c => .bl (decide (c ∈ b))) (by simp) (by simp) (by intro c hc; simp) (by intro c hc _; simp) (by rw [sz_line]; exact ha)
  simp [m_within, g_within, h, Ow.dt, oAll_map, withinL]
/-! ### is_set -/
def letters : Tx := [97, 98, 99, 100, 101, 102, 103, 104, 105, 106, 107, 108, 109, 110, 111, 112, 113, 114, 115, 116, 117, 118, 119, 120, 121, 122]
theorem letters_eq : (Str.ofString "abcdefghijklmnopqrstuvwxyz") = sx letters := by decide +kernel
def adjL : Tx → Bool
  | c :: d :: l => decide (c < d) && adjL (d :: l)
  | _ => true
def isSetL (l : Tx) : Bool := l.all (fun c => decide (c ∈ letters)) && adjL l
theorem adj_ris : ∀ {l : Tx}, adjL l = true ↔ Ris l
  | [] => by simp [adjL]
  | [c] => by simp [adjL]
  | c :: d :: l => by
    rw [adjL, Bool.and_eq_true, adj_ris, decide_eq_true_eq]
    refine ⟨fun ⟨h1, h2⟩ => List.pairwise_cons.mpr ⟨fun a ha => ?_, h2⟩, fun h => ⟨(List.pairwise_cons.mp h).1 d List.mem_cons_self, (List.pairwise_cons.mp h).2⟩⟩
    rcases List.mem_cons.mp ha with e | e
    · rw [e]; exact h1
    · exact Nat.lt_trans h1 ((List.pairwise_cons.mp h2).1 a e)
theorem zip_adj : ∀ l : Tx, (l.dropLast.zip l.tail).all (fun p => decide (p.1 < p.2)) = adjL l
  | [] => rfl
  | [c] => rfl
  | c :: d :: l => by
    have := zip_adj (d :: l)
    simp only [List.dropLast_cons₂, List.tail_cons, List.zip_cons_cons, List.all_cons, adjL] at this ⊢
    rw [← this]
theorem zip2D_zip : ∀ (a b : Tx), zip2D (a.map fun c => T [c]) (b.map fun c => T [c]) = (a.zip b).map fun p => .tup [T [p.1], T [p.2]]
  | [], _ => by cases ‹Tx› <;> rfl
  | _ :: _, [] => rfl
  | a :: as, b :: bs => by simp [zip2D, zip2D_zip as bs]
theorem cutS_init (l : Tx) : cutS (sx l) none (some (-1)) = sx l.dropLast := by
  unfold cutS
  simp only [sx_toList, sx_length]
  have h1 : HT.sIx l.length 0 none = 0 := rfl
  have h2 : HT.sIx l.length l.length (some (-1)) = l.length - 1 := by
    unfold HT.sIx
    simp
    omega
  rw [h1, h2, List.drop_zero, List.dropLast_eq_take]
  rfl
theorem cutS_tail (l : Tx) : cutS (sx l) (some 1) none = sx l.tail := by
  unfold cutS
  simp only [sx_toList, sx_length]
  have h1 : HT.sIx l.length 0 (some 1) = min 1 l.length := rfl
  have h2 : HT.sIx l.length l.length none = l.length := rfl
  rw [h1, h2]
  cases l with
  | nil => rfl
  | cons c l => simp [sx]
theorem m_is_set_eq {x : Tx} {w : Ds} (hx : x.length ≤ 4000) : m_is_set [T x] w = .dat (.bl (isSetL x)) w := by
  have h1 := gLc_text (vs := [1]) (i := 1) (gi := gVar 0) (gt := gYes) (ge := gBin oNotIn (gVar 1) (gOk (.str "abcdefghijklmnopqrstuvwxyz"))) (env := [.dat (T x), .un, .un, .un]) (w := w) (w1 := w) x (fun _ => true) (fun c => .bl (!decide (c ∈ letters))) (by simp) (by simp) (by intro c hc; simp) (by intro c hc _; simp [letters_eq, -List.mem_cons]) (by rw [sz_line]; omega)
  have h2 := gLc_map (vs := [2, 3]) (gi := gIts oZip2 (gCons (gSl (gVar 0) gNoPart (gPart (gNeg (gOk (.int 1))))) (gCons (gSl (gVar 0) (gPart (gOk (.int 1))) gNoPart) gNil))) (b := bTup (bCons (bName 2) (bCons (bName 3) bNil))) (gt := gYes) (ge := gBin oLt (gVar 2) (gVar 3)) (env := [.dat (T x), .un, .un, .un]) (w := w) (w1 := w) (x.dropLast.zip x.tail) (fun p => .tup [T [p.1], T [p.2]]) (fun _ => true) (fun p => .bl (decide (p.1 < p.2)))
    (by simp [oSl, sz_line, show x.length ≤ 16777216 by omega, cutS_init, cutS_tail, oZip2]; rw [← List.map_dropLast, ← List.map_tail, zip2D_zip])
    (by intro p hp; simp [bTup, bCons, bNil, oLt])
    (by rw [sz_line]; simp; omega)
  cases hb : x.any (fun c => !decide (c ∈ letters)) with
  | true =>
    have e : isSetL x = false := by
      unfold isSetL
      rw [← Bool.not_not (x.all _), List.not_all_eq_any_not, hb]; rfl
    simp [m_is_set, g_is_set, h1, hb, Ow.dt, e]
  | false =>
    have e : isSetL x = adjL x := by
      unfold isSetL
      rw [← Bool.not_not (x.all _), List.not_all_eq_any_not, hb]; rfl
    simp [m_is_set, g_is_set, h1, h2, hb, Ow.dt, e, zip_adj]
/-! ### the law's own -/
theorem m__law_of_eq {a b : Tx} {w : Ds} (ha : a.length ≤ 16777216) : m__law_of [T a, T b] w = .dat (T (commonL a b)) w := m_common_eq ha
theorem m__law_off_eq {a b : Tx} {w : Ds} (ha : a.length ≤ 16777216) : m__law_off [T a, T b] w = .dat (T (withoutL a b)) w := m_without_eq ha
theorem m__law_in_eq {a b : Tx} {w : Ds} (ha : a.length ≤ 16777216) : m__law_in [T a, T b] w = .dat (.bl (withinL a b)) w := m_within_eq ha
theorem m__law_letters_eq {w : Ds} : m__law_letters [] w = .dat (T letters) w := by
  simp [m__law_letters, g__law_letters, letters_eq]
/-! ### draws -/
structure Wk (w : Ds) : Prop where
  len : w.ns.length ≤ 63
theorem ixN_mod {n : Nat} {i : Int} (h : 0 < n) : ixN n (i % n) = some (i % n).toNat := by
  have h1 := Int.emod_nonneg i (show (n : Int) ≠ 0 by omega)
  have h2 := Int.emod_lt_of_pos i (show (0 : Int) < n by omega)
  unfold ixN
  rw [if_pos h1, if_pos h2]
theorem m__law_draw_eq {w : Ds} {many : Int} (hw : Wk w) (h0 : 0 < many) (h1 : many < 1073741824) : ∃ r w', m__law_draw [.wd, .int many] w = .dat (.int r) w' ∧ 0 ≤ r ∧ r < many ∧ Wk w' := by
  have md : ∀ x : Int, 0 ≤ x % many ∧ x % many < many := fun x => ⟨Int.emod_nonneg _ (by omega), Int.emod_lt_of_pos _ h0⟩
  by_cases hr : 0 < w.rem
  · exact ⟨w.rem % many, { w with rem := w.rem / many }, by simp [m__law_draw, g__law_draw, hr, h0, h1], (md _).1, (md _).2, ⟨hw.len⟩⟩
  · have hl : w.ns.length ≤ 16777216 := Nat.le_trans hw.len (by decide)
    have cell : ∃ c : Int, (gIfE (gTst (gBin oGt (gArgs oLen (gCons (gIx (gVar 0) (gOk (.int 0))) gNil)) (gOk (.int 0)))) (gIx (gIx (gVar 0) (gOk (.int 0))) (gBin oMod (gIx (gVar 0) (gOk (.int 1))) (gArgs oLen (gCons (gIx (gVar 0) (gOk (.int 0))) gNil)))) (gOk (.int 0))) [.dat .wd, .dat (.int many), .un, .un] w = .ok (.int c) w := by
      by_cases hn : w.ns = []
      · exact ⟨0, by simp [oLen, hn]⟩
      · have hp : 0 < w.ns.length := List.length_pos_iff.mpr hn
        have hz := @ixN_mod w.ns.length w.pl hp
        have hlt : (w.pl % (w.ns.length : Int)).toNat < w.ns.length := by
          have h1 := Int.emod_nonneg w.pl (show (w.ns.length : Int) ≠ 0 by omega)
          have h2 := Int.emod_lt_of_pos w.pl (show (0 : Int) < w.ns.length by omega)
          omega
        have ha : atI w.ns (w.pl % (w.ns.length : Int)) = some (w.ns[(w.pl % (w.ns.length : Int)).toNat]) := by
          unfold atI
          rw [hz]
          exact List.getElem?_eq_getElem hlt
        exact ⟨w.ns[(w.pl % (w.ns.length : Int)).toNat], by simp [oLen, hp, ha, show (0 : Int) < w.ns.length by omega]⟩
    obtain ⟨c, hc⟩ := cell
    have hp : oPow (.int 10) (.int 18) = some (.int 1000000000000000000) := rfl
    by_cases hb : 1000000000000000000 ≤ absI c
    · exact ⟨absI c % many, { w with pl := w.pl + 1, rem := absI c / many }, by
        simp [-gIfE_app, m__law_draw, g__law_draw, hr, h0, h1, hc, hp, hb], (md _).1, (md _).2, ⟨hw.len⟩⟩
    · exact ⟨(((w.seed * 69621 + c % 2147483647 + (w.pl + 1)) % 2147483647) / 64) % many, { w with pl := w.pl + 1, seed := (w.seed * 69621 + c % 2147483647 + (w.pl + 1)) % 2147483647 }, by
        simp [-gIfE_app, m__law_draw, g__law_draw, hr, h0, h1, hc, hp, hb, oMul_int], (md _).1, (md _).2, ⟨hw.len⟩⟩
/-! ### heads, sides, texts -/
/-- the laws' heads: rising letters -/
structure Hd (h : Tx) : Prop where
  ris : Ris h
  let_ : ∀ c ∈ h, c ∈ letters
  lo : 2 ≤ h.length
  hi : h.length ≤ 6
theorem let_range {c : Nat} : c ∈ letters ↔ 97 ≤ c ∧ c ≤ 122 := by
  refine ⟨fun h => ?_, fun ⟨h1, h2⟩ => ?_⟩
  · have : letters.all (fun c => decide (97 ≤ c) && decide (c ≤ 122)) = true := by decide
    have := List.all_eq_true.mp this c h
    simpa using this
  · have : ∀ k : Fin 26, (97 + k.val) ∈ letters := by decide
    have := this ⟨c - 97, by omega⟩
    rwa [show 97 + (c - 97) = c by omega] at this
theorem atI_letters {i : Nat} (h : i < 26) : atI letters (i : Int) = some (97 + i) := by
  have : ∀ k : Fin 26, atI letters ((k.val : Nat) : Int) = some (97 + k.val) := by decide
  exact this ⟨i, h⟩
theorem oMin2_int (i j : Int) : oMin2 [.int i, .int j] = some (.int (if j < i then j else i)) := rfl
def headI (many : Nat) (pre _post : List Nat) (env : Dn.Env) (w : Ds) : Prop :=
  ∃ (hd : Tx) (at_ sp : Nat) (k1 k2 : Sl), env = [.dat .wd, .dat (.int many), .dat (T hd), .dat (.int at_), .dat (.int sp), k1, k2] ∧ Wk w ∧ hd.length = pre.length ∧ at_ + sp + (many - pre.length) = 26 ∧ Ris hd ∧ ∀ c ∈ hd, 97 ≤ c ∧ c < 97 + at_
theorem range_at {n : Nat} {pre post : List Nat} {x : Nat} (h : List.range n = pre ++ x :: post) : x = pre.length ∧ pre.length < n := by
  have h1 : (List.range n).length = (pre ++ x :: post).length := by rw [h]
  have h2 : (List.range n)[pre.length]? = some x := by rw [h]; simp
  simp at h1
  rw [List.getElem?_range (by omega)] at h2
  exact ⟨(Option.some.inj h2).symm, by omega⟩
theorem ris_snoc {l : Tx} {c : Nat} (h : Ris l) (hc : ∀ d ∈ l, d < c) : Ris (l ++ [c]) :=
  List.pairwise_append.mpr ⟨h, List.pairwise_singleton _ _, fun a ha b hb => by rw [List.mem_singleton.mp hb]; exact hc a ha⟩
theorem head_turn {many : Nat} (h1 : many ≤ 6) {pre post : List Nat} {x : Nat} {env : Dn.Env} {w : Ds} (hx : List.range many = pre ++ x :: post) (hI : headI many pre (x :: post) env w) :
    ∃ e1, bName 5 (.int (x : Int)) env = some e1 ∧ ∃ e2 w2, b__law_head_of_0 e1 w = .nx e2 w2 ∧ headI many (pre ++ [x]) post e2 w2 := by
  obtain ⟨hd, at_, sp, k1, k2, rfl, hw, hl, hs, hr, hc⟩ := hI
  obtain ⟨hx1, hx2⟩ := range_at hx
  refine ⟨[.dat .wd, .dat (.int many), .dat (T hd), .dat (.int at_), .dat (.int sp), .dat (.int (x : Int)), k2], by simp, ?_⟩
  have arg : ∃ m : Int, (gBin oAdd (gIfE (gTst (gBin oEq (gVar 5) (gOk (.int 0)))) (gVar 4) (gArgs oMin2 (gCons (gVar 4) (gCons (gOk (.int 5)) gNil)))) (gOk (.int 1))) [.dat .wd, .dat (.int many), .dat (T hd), .dat (.int at_), .dat (.int sp), .dat (.int (x : Int)), k2] w = .ok (.int m) w ∧ 0 < m ∧ m ≤ sp + 1 := by
    by_cases hz : x = 0
    · exact ⟨sp + 1, by simp [hz], by omega, by omega⟩
    · refine ⟨(if (5 : Int) < sp then 5 else (sp : Int)) + 1, by simp [oMin2_int, hz], ?_, ?_⟩
      · split <;> omega
      · split <;> omega
  obtain ⟨m, e0, m0, m1⟩ := arg
  obtain ⟨r, w1, e1, r0, r1, hw1⟩ := m__law_draw_eq hw m0 (by omega)
  obtain ⟨k, rfl⟩ : ∃ k : Nat, r = k := ⟨r.toNat, by omega⟩
  have hat : atI letters ((at_ : Int) + (k : Int)) = some (97 + (at_ + k)) := by
    have := atI_letters (i := at_ + k) (by omega)
    rwa [Int.natCast_add] at this
  refine ⟨[.dat .wd, .dat (.int many), .dat (T (hd ++ [97 + (at_ + k)])), .dat (.int ((at_ + k + 1 : Nat) : Int)), .dat (.int ((sp - k : Nat) : Int)), .dat (.int (x : Int)), .dat (.int k)], w1, ?_, ?_⟩
  · have es : (Dt.int ((sp : Int) - (k : Int))) = .int ((sp - k : Nat) : Int) := by congr 1; omega
    refine sSeq_nx (sSet_ok (gCall_dat (ga2 rfl e0) e1)) (sSeq_nx (sSet_ok (d := .int ((sp - k : Nat) : Int)) (by rw [← es]; rfl)) (sSeq_nx (sSet_ok (d := T (hd ++ [97 + (at_ + k)])) (gBin_ok (a := T hd) rfl (gIx_ok (a := T letters) (w1 := w1) (b := .int ((at_ : Int) + (k : Int))) (r := T [97 + (at_ + k)]) (by simp [m__law_letters_eq]) rfl ?_) ?_)) (sSet_ok (d := .int ((at_ + k + 1 : Nat) : Int)) rfl)))
    · show (if (sx letters).length ≤ sizeLine then (atI (sx letters).cps.toList ((at_ : Int) + (k : Int))).map fun c => Dt.str ⟨#[c]⟩ else none) = _
      rw [sx_toList, hat]; rfl
    · show (if (sx hd).length + (sx [97 + (at_ + k)]).length ≤ sizeLine then some (Dt.str (sx hd ++ sx [97 + (at_ + k)])) else none) = _
      rw [sx_append, if_pos (by rw [sz_line]; simp; omega)]
  · exact ⟨_, _, _, _, _, rfl, hw1, by simp [hl], by simp; omega, ris_snoc hr fun d hd => by have := hc d hd; omega, fun c hm => by
      rcases List.mem_append.mp hm with z | z
      · have := hc c z; omega
      · rw [List.mem_singleton.mp z]; omega⟩
theorem m__law_head_of_eq {w : Ds} {many : Nat} (hw : Wk w) (h0 : 2 ≤ many) (h1 : many ≤ 6) : ∃ h w', m__law_head_of [.wd, .int many] w = .dat (T h) w' ∧ Hd h ∧ h.length = many ∧ Wk w' := by
  have hloop := forG_inv (b := bName 5) (body := b__law_head_of_0) (headI many) (fun k : Nat => Dt.int (k : Int)) (List.range many) (fun pre x post env w hx hI => by
    obtain ⟨e1, h2, e2, w2, h3, h4⟩ := head_turn h1 hx hI
    exact ⟨e1, h2, .inl ⟨e2, w2, h3, h4⟩⟩) (env := [.dat .wd, .dat (.int many), .dat (T []), .dat (.int (0 : Nat)), .dat (.int ((26 - many : Nat) : Int)), .un, .un]) (w := w)
    ⟨[], 0, 26 - many, .un, .un, rfl, hw, rfl, by simp; omega, List.Pairwise.nil, fun _ h => nomatch h⟩
  obtain ⟨e2, w2, h3, hd, at_, sp, k1, k2, rfl, hw2, hl, hs, hr, hc⟩ := hloop
  refine ⟨hd, w2, ?_, ⟨hr, fun c hm => let_range.mpr (by have := hc c hm; simp at hs; omega), by simp at hl; omega, by simp at hl; omega⟩, by simpa using hl, hw2⟩
  have e26 : (26 : Int) - (many : Int) = ((26 - many : Nat) : Int) := by omega
  have ee : Str.ofString "" = sx [] := rfl
  refine runM_ret (sSeq_nx (e1 := [.dat .wd, .dat (.int many), .dat (T []), .dat (.int (0 : Nat)), .dat (.int ((26 - many : Nat) : Int)), .un, .un]) (w1 := w) ?_ (sSeq_nx (sFor_ok (items := (List.range many).map fun k : Nat => Dt.int (k : Int)) (w1 := w) ?_ h3) (sRet_ok (by simp))))
  · simp [e26, ee]
  · exact gIts_ok (ga1 rfl) (oRng1_nat many (by omega))
theorem m__law_head_eq {w : Ds} (hw : Wk w) : ∃ h w', m__law_head [.wd] w = .dat (T h) w' ∧ Hd h ∧ Wk w' := by
  obtain ⟨r, w1, e1, r0, r1, hw1⟩ := m__law_draw_eq hw (many := 3) (by decide) (by decide)
  have hm : ∃ m : Nat, atI [Dt.int 3, Dt.int 3, Dt.int 5] r = some (.int m) ∧ 0 < m ∧ m ≤ 5 := by
    have : r = 0 ∨ r = 1 ∨ r = 2 := by omega
    rcases this with rfl | rfl | rfl
    · exact ⟨3, rfl, by decide, by decide⟩
    · exact ⟨3, rfl, by decide, by decide⟩
    · exact ⟨5, rfl, by decide, by decide⟩
  obtain ⟨m, em, m0, m1⟩ := hm
  obtain ⟨q, w2, e2, q0, q1, hw2⟩ := m__law_draw_eq hw1 (many := (m : Int)) (by omega) (by omega)
  obtain ⟨k, rfl⟩ : ∃ k : Nat, q = k := ⟨q.toNat, by omega⟩
  obtain ⟨h, w3, e3, hh, _, hw3⟩ := m__law_head_of_eq (many := 2 + k) hw2 (by omega) (by omega)
  refine ⟨h, w3, runM_ret (sRetC_dat (ga2 (d' := .int ((2 + k : Nat) : Int)) rfl (gBin_ok rfl (gCall_dat (ga2 rfl (gIx_ok (a := .lst [.int 3, .int 3, .int 5]) (w1 := w) (gFrz_lst (by simp [sz_line])) (gCall_dat (ga2 rfl rfl) e1) em)) e2) (by simp))) e3), hh, hw3⟩
theorem Hd.asc {h : Tx} (H : Hd h) : Asc h := fun c hc => by have := let_range.mp (H.let_ c hc); omega
theorem asc_sub {a b : Tx} (h : Asc b) (s : a.Sublist b) : Asc a := fun c hc => h c (s.subset hc)
theorem m__law_side_eq {w : Ds} {h : Tx} (hw : Wk w) (hh : h.length ≤ 4000) : ∃ s w', m__law_side [.wd, T h] w = .dat (T s) w' ∧ s.Sublist h ∧ Wk w' := by
  obtain ⟨r, w1, e1, r0, r1, hw1⟩ := m__law_draw_eq hw (many := 3) (by decide) (by decide)
  have hm : ∃ m : Int, atI [Dt.int 2, Dt.int 3, Dt.int 4] r = some (.int m) ∧ 0 < m ∧ m ≤ 5 := by
    have : r = 0 ∨ r = 1 ∨ r = 2 := by omega
    rcases this with rfl | rfl | rfl
    · exact ⟨2, rfl, by decide, by decide⟩
    · exact ⟨3, rfl, by decide, by decide⟩
    · exact ⟨4, rfl, by decide, by decide⟩
  obtain ⟨m, em, m0, m1⟩ := hm
  obtain ⟨ys, w2, e2, hw2, s, hs, rfl⟩ := gLc_inv (vs := [3]) (gi := gIt srcD (gVar 1)) (b := bName 3) (gt := gTst (gBin oEq (gCall 2 [] m__law_draw (gCons (gVar 0) (gCons (gVar 2) gNil))) (gOk (.int 0)))) (ge := gVar 3) (env := [.dat .wd, .dat (T h), .dat (.int m), .un]) (w := w1) (w1 := w1) Wk
    (fun ys => ∃ s : Tx, s.Sublist h ∧ ys = s.map fun c => T [c]) h (fun c => T [c]) (fun c d => d = T [c]) (gIt_ok rfl (srcD_T h)) hw1
    (fun c hc => ⟨[.dat .wd, .dat (T h), .dat (.int m), .dat (T [c])], by simp, fun w hw => by
      obtain ⟨q, w2, e2, q0, q1, hw2⟩ := m__law_draw_eq hw (many := m) m0 (by omega)
      exact ⟨decide (q = 0), w2, gTst_ok (gBin_ok (gCall_dat (ga2 rfl rfl) e2) rfl (oEq_int q 0)), hw2, fun _ => ⟨T [c], w2, rfl, hw2, rfl⟩⟩⟩) (by rw [sz_line]; omega)
    (fun zs h1 h2 => ⟨zs.map (·.1), h1, by
      rw [List.map_map]
      exact List.map_congr_left fun z hz => h2 z hz⟩)
  exact ⟨s, w2, runM_ret (sSeq_nx (sSet_ok (gIx_ok (a := .lst [.int 2, .int 3, .int 4]) (w1 := w) (gFrz_lst (by simp [sz_line])) (gCall_dat (ga2 rfl rfl) e1) em)) (sRet_ok (gM1_ok rfl (gFrz_lst e2) (join_signs s (by have := hs.length_le; omega))))), hs, hw2⟩
/-! ### texts -/
/-! ### the law's own is_set -/
theorem atI_nat {α : Type} {l : List α} {i : Nat} (h : i < l.length) : atI l (i : Int) = some l[i] := by
  unfold atI ixN
  rw [if_pos (by omega), if_pos (by omega)]
  simp [List.getElem?_eq_getElem h]
theorem oIx_T {l : Tx} {i : Nat} {w : Ds} (h : i < l.length) (hl : l.length ≤ 16777216) : oIx w (T l) (.int (i : Int)) = some (T [l[i]]) := by
  show (if (sx l).length ≤ sizeLine then (atI (sx l).cps.toList (i : Int)).map fun c => Dt.str ⟨#[c]⟩ else none) = _
  rw [sx_toList, if_pos (by rw [sz_line]; simpa using hl), atI_nat h]
  rfl
/-! ### all sets of columns -/
theorem flats_T (ss : List Tx) : flats (ss.map T) = true := by
  induction ss with
  | nil => rfl
  | cons a ss ih => simp [flats, flat, ih]
theorem gLendF_lst {g : GF} {env : Dn.Env} {w w1 : Ds} {ds : List Dt} (h : g (lendA env) w = .ok (.lst ds) w1) (hf : flats ds = true) : gLendF g env w = .ok (.lst ds) w1 := by
  unfold gLendF
  rw [h]
  simp [hf]
theorem oAdd_T {a b : Tx} (h : a.length + b.length ≤ 16777216) : oAdd (T a) (T b) = some (T (a ++ b)) := by
  show (if (sx a).length + (sx b).length ≤ sizeLine then some (Dt.str (sx a ++ sx b)) else none) = _
  rw [sx_append, if_pos (by rw [sz_line]; simpa using h)]
theorem oAdd_lst {xs ys : List Dt} (h : xs.length + ys.length ≤ sizeLine) : oAdd (.lst xs) (.lst ys) = some (.lst (xs ++ ys)) := if_pos h
/-! ### the law -/
theorem mem_commonL {a b : Tx} {c : Nat} : c ∈ commonL a b ↔ c ∈ a ∧ c ∈ b := by simp [commonL]
end Mi
end
section
/-! Rows, sayings, clashes. -/
namespace Mi
open PySem L2 Dn
/-! ### rows -/
theorem intsOf_map (r : List Int) : intsOf (r.map .int) = some r := by
  induction r with
  | nil => rfl
  | cons a r ih => simp [intsOf, ih]
theorem tupI_row (r : List Int) : tupI (rowD r) = some r := intsOf_map r
theorem tupIs_rows (rs : List (List Int)) : tupIs (rs.map rowD) = some rs := by
  induction rs with
  | nil => rfl
  | cons a r ih => simp [tupIs, tupI_row, ih]
theorem rowD_inj {a b : List Int} (h : rowD a = rowD b) : a = b := by
  have := tupI_row a
  rw [h, tupI_row] at this
  exact (Option.some.inj this).symm
theorem pl_row (r : List Int) {n : Nat} : Pl (n + 1) (rowD r) := .tup fun x hx => by
  obtain ⟨i, _, rfl⟩ := List.mem_map.mp hx
  exact .int i
theorem oEq_row (a b : List Int) : oEq (rowD a) (rowD b) = some (.bl (decide (a = b))) := by
  unfold oEq
  rw [eqD_inj (f := rowD) (fun _ _ => rowD_inj) (n := 1) (m := 1) (pl_row a) (pl_row b)]
  rfl
theorem oNe_row (a b : List Int) : oNe (rowD a) (rowD b) = some (.bl (!decide (a = b))) := by
  unfold oNe
  rw [eqD_inj (f := rowD) (fun _ _ => rowD_inj) (n := 1) (m := 1) (pl_row a) (pl_row b)]
  rfl
theorem oTuple_lst (ds : List Dt) : oTuple [.lst ds] = some (.tup ds) := by
  unfold oTuple; rfl
def cellsL (r : List Int) (h p : Tx) : List Int := ((r.zip h).filter fun q => decide (q.2 ∈ p)).map (·.1)
def wantedL (a b : List Int) (h t : Tx) : List Int := (a.zip (b.zip h)).map fun q => if q.2.2 ∈ t then q.1 else q.2.1
/-! ### rising -/
theorem oSrtT_rows {rs : List (List Int)} (ok : okRows rs = true) : oSrtT [.lst (rs.map rowD)] = some (.lst ((sortRows rs).map rowD)) := by
  simp only [oSrtT]
  rw [tupIs_rows]
  simp only [Option.bind]
  rw [if_pos ok]
theorem oTuple_row (r : List Int) : oTuple [rowD r] = some (rowD r) := by unfold oTuple; rfl
theorem addAll_len : ∀ (rs ks : List (List Int)), (Sk.addAll ks rs).length ≤ ks.length + rs.length
  | [], ks => Nat.le_refl _
  | r :: rs, ks => by
    have h1 := addAll_len rs (Sk.addK r ks)
    have h2 := Sk.addK_len r ks
    show (Sk.addAll (Sk.addK r ks) rs).length ≤ _
    simp only [List.length_cons]
    omega
/-! ### clashes -/
def badT (h l r : Tx) (a b : List Int) : Bool := decide (cellsL a h l = cellsL b h l) && !decide (cellsL a h r = cellsL b h r)
def clashT (h l r : Tx) : List (List Int) → Option (List Int × List Int)
  | [] => none
  | a :: rest => match rest.find? (badT h l r a) with
    | some b => some (a, b)
    | none => clashT h l r rest
/-! ### rows as keys -/
/-! ### clashes of "parts" -/
def badP (rows : List (List Int)) (h l t : Tx) (a b : List Int) : Bool := decide (cellsL a h l = cellsL b h l) && !decide (wantedL a b h t ∈ rows)
def clashP (h l t : Tx) (rows : List (List Int)) : List (List Int) → Option (List Int × List Int × List Int)
  | [] => none
  | a :: rest => match rows.find? (badP rows h l t a) with
    | some b => some (a, b, wantedL a b h t)
    | none => clashP h l t rows rest
/-! ### sayings -/
def tellsT : Tx := [116, 101, 108, 108, 115]
def partsT : Tx := [112, 97, 114, 116, 115]
theorem tells_str : Str.ofString "tells" = sx tellsT := by decide +kernel
theorem parts_str : Str.ofString "parts" = sx partsT := by decide +kernel
theorem tells_asc : Asc tellsT := by intro c h; simp [tellsT] at h; omega
theorem parts_asc : Asc partsT := by intro c h; simp [partsT] at h; omega
structure Sy where
  tells : Bool
  l : Tx
  r : Tx
def Sy.word (s : Sy) : Tx := if s.tells then tellsT else partsT
def Sy.d (s : Sy) : Dt := .tup [T s.word, T s.l, T s.r]
theorem Sy.word_asc (s : Sy) : Asc s.word := by unfold Sy.word; split; exact tells_asc; exact parts_asc
theorem Sy.eq_tells (s : Sy) : oEq (T s.word) (.str "tells") = some (.bl s.tells) := by
  rw [tells_str, oEq_T s.word_asc tells_asc]
  unfold Sy.word
  cases s.tells <;> simp [tellsT, partsT]
theorem Sy.eq_parts (s : Sy) : oEq (T s.word) (.str "parts") = some (.bl (!s.tells)) := by
  rw [parts_str, oEq_T s.word_asc parts_asc]
  unfold Sy.word
  cases s.tells <;> simp [tellsT, partsT]
def keepsB (h : Tx) (s : Sy) (rows : List (List Int)) : Bool := if s.tells then (clashT h s.l (withoutL s.r s.l) rows).isNone else (clashP h s.l (unionL s.l s.r) rows rows).isNone
/-- a table as the laws hand it -/
structure Tbl (h : Tx) (rs : List (List Int)) : Prop where
  len : ∀ r ∈ rs, r.length = h.length
  few : rs.length < 4000
  hl : h.length ≤ 10
theorem Tbl.ok {h : Tx} {rs : List (List Int)} (t : Tbl h rs) : okRows rs = true := by
  unfold okRows
  simp only [Bool.and_eq_true, Bool.or_eq_true, decide_eq_true_eq, List.all_eq_true, Bool.not_eq_true']
  refine ⟨⟨Nat.lt_of_le_of_lt (by simpa using addAll_len rs []) (Nat.lt_of_lt_of_le t.few (by decide)), ?_⟩, by rw [sz_line]; have := t.few; omega⟩
  by_cases hh : h.length = 0
  · exact .inr fun r hr => List.isEmpty_iff.mpr (List.length_eq_zero_iff.mp ((t.len r hr).trans hh))
  · refine .inl fun r hr => ?_
    have := t.len r hr
    cases r with
    | nil => simp at this; omega
    | cons _ _ => rfl
theorem gaC {ga : GE} {gr : GA} {env : Dn.Env} {w w1 w2 : Ds} {d : Dt} {ds : List Dt} (h1 : ga env w = .ok d w1) (h2 : gr env w1 = .ok ds w2) : gCons ga gr env w = .ok (d :: ds) w2 := by
  rw [gCons_app, h1, bind_ok, h2]; rfl
theorem gaN {env : Dn.Env} {w : Ds} : gNil env w = .ok [] w := rfl
end Mi
end
section
/-! Sayings: what the laws draw, what idle ones keep. -/
namespace Mi
open PySem L2 Dn
/-! ### draws -/
theorem oLen_T {h : Tx} (hl : h.length ≤ 16777216) : oLen [T h] = some (.int (h.length : Int)) := by
  show (if (sx h).length ≤ sizeLine then some (Dt.int ((sx h).length : Int)) else none) = _
  rw [sx_length, if_pos (by rw [sz_line]; exact hl)]
theorem gAnd_f {g h : GT} {env : Dn.Env} {w w1 : Ds} (e : g env w = .ok false w1) : gAnd g h env w = .ok false w1 := by rw [gAnd_app, e]; rfl
theorem gAnd_t {g h : GT} {env : Dn.Env} {w w1 : Ds} {o : Out Bool} (e : g env w = .ok true w1) (e' : h env w1 = o) : gAnd g h env w = o := by rw [gAnd_app, e]; exact e'
theorem word_draw {w : Ds} (hw : Wk w) : ∃ s : Bool, ∃ w', ∀ env : Dn.Env, env[0]? = some (.dat .wd) → (gIx (gFrz (gLst (gCons (gOk (.str "tells")) (gCons (gOk (.str "tells")) (gCons (gOk (.str "parts")) gNil))))) (gCall 2 [] m__law_draw (gCons (gVar 0) (gCons (gOk (.int 3)) gNil)))) env w = .ok (T (if s then tellsT else partsT)) w' ∧ Wk w' := by
  obtain ⟨r, w1, e1, r0, r1, hw1⟩ := m__law_draw_eq hw (many := 3) (by decide) (by decide)
  have hm : ∃ s : Bool, atI [Dt.str "tells", Dt.str "tells", Dt.str "parts"] r = some (T (if s then tellsT else partsT)) := by
    have : r = 0 ∨ r = 1 ∨ r = 2 := by omega
    rcases this with rfl | rfl | rfl
    · exact ⟨true, congrArg (fun x => some (Dt.str x)) tells_str⟩
    · exact ⟨true, congrArg (fun x => some (Dt.str x)) tells_str⟩
    · exact ⟨false, congrArg (fun x => some (Dt.str x)) parts_str⟩
  obtain ⟨s, em⟩ := hm
  refine ⟨s, w1, fun env h => ⟨gIx_ok (a := .lst [.str "tells", .str "tells", .str "parts"]) (w1 := w) (gFrz_lst (by simp [sz_line])) (gCall_dat (ds := [.wd, .int 3]) (w1 := w) ?_ e1) em, hw1⟩⟩
  simp [h]
theorem m__law_saying_eq {w : Ds} {h : Tx} (hw : Wk w) (h0 : 0 < h.length) (hh : h.length ≤ 4000) (ha : Asc h) : ∃ (s : Sy) (w' : Ds), m__law_saying [.wd, T h] w = .dat s.d w' ∧ s.l.Sublist h ∧ s.r.Sublist h ∧ Wk w' := by
  obtain ⟨t, w1, e1⟩ := word_draw hw
  have hw1 := (e1 [.dat .wd] rfl).2
  obtain ⟨l, w2, e2, hl, hw2⟩ := m__law_side_eq hw1 (h := h) hh
  obtain ⟨r, w3, e3, hr, hw3⟩ := m__law_side_eq hw2 (h := h) hh
  have e1' := (e1 [.dat .wd, .dat (T h), .un, .un, .un] rfl).1
  have ee : Str.ofString "" = sx [] := rfl
  have fin : ∀ (x : Tx) (w : Ds), sRet (gTup (gCons (gVar 2) (gCons (gVar 3) (gCons (gVar 4) gNil)))) [.dat .wd, .dat (T h), .dat (T (if t then tellsT else partsT)), .dat (T l), .dat (T x)] w = .ret (Sy.d ⟨t, l, x⟩) w := fun x w => sRet_ok (by simp [sz_line, Sy.d, Sy.word])
  by_cases hr0 : r = []
  · subst hr0
    obtain ⟨q, w4, e4, q0, q1, hw4⟩ := m__law_draw_eq hw3 (many := 2) (by decide) (by decide)
    have t1 : (gTst (gBin oEq (gVar 4) (gOk (.str "")))) [.dat .wd, .dat (T h), .dat (T (if t then tellsT else partsT)), .dat (T l), .dat (T [])] w3 = .ok true w3 :=
      gTst_ok (gBin_ok (a := T []) (b := T []) rfl (by rw [gOk_app, ee]) (oEq_same (n := 0) (.str fun c h => by cases h)))
    have t2 : (gTst (gBin oEq (gCall 2 [] m__law_draw (gCons (gVar 0) (gCons (gOk (.int 2)) gNil))) (gOk (.int 0)))) [.dat .wd, .dat (T h), .dat (T (if t then tellsT else partsT)), .dat (T l), .dat (T [])] w3 = .ok (decide (q = 0)) w4 :=
      gTst_ok (gBin_ok (gCall_dat (ga2 rfl rfl) e4) rfl (oEq_int q 0))
    have ta : (gAnd (gTst (gBin oEq (gVar 4) (gOk (.str "")))) (gTst (gBin oEq (gCall 2 [] m__law_draw (gCons (gVar 0) (gCons (gOk (.int 2)) gNil))) (gOk (.int 0))))) [.dat .wd, .dat (T h), .dat (T (if t then tellsT else partsT)), .dat (T l), .dat (T [])] w3 = .ok (decide (q = 0)) w4 := by
      rw [gAnd_app, t1, bind_ok, if_pos rfl, t2]
    by_cases hq : q = 0
    · obtain ⟨i, w5, e5, i0, i1, hw5⟩ := m__law_draw_eq hw4 (many := (h.length : Int)) (by omega) (by omega)
      obtain ⟨k, rfl⟩ : ∃ n : Nat, i = n := ⟨i.toNat, by omega⟩
      refine ⟨⟨t, l, [h[k]'(by omega)]⟩, w5, runM_ret (sSeq_nx (sSet_ok e1') (sSeq_nx (sSet_ok (gCall_dat (ga2 rfl rfl) e2)) (sSeq_nx (sSet_ok (gCall_dat (ga2 rfl rfl) e3)) (sSeq_nx (sIf_t (w1 := w4) ?_ (sSet_ok (gIx_ok (a := T h) (w1 := w4) rfl (gCall_dat (ga2 rfl (gArgs_ok (ga1 rfl) ?_)) e5) (oIx_T (by omega) (by omega))))) (fin _ _))))), hl, List.singleton_sublist.mpr (List.getElem_mem _), hw5⟩
      · exact ta.trans (by simp [hq])
      · exact oLen_T (by omega)
    · refine ⟨⟨t, l, []⟩, w4, runM_ret (sSeq_nx (sSet_ok e1') (sSeq_nx (sSet_ok (gCall_dat (ga2 rfl rfl) e2)) (sSeq_nx (sSet_ok (gCall_dat (ga2 rfl rfl) e3)) (sSeq_nx (sIf_f (w1 := w4) ?_ rfl) (fin _ _))))), hl, hr, hw4⟩
      exact ta.trans (by simp [hq])
  · have t1 : (gTst (gBin oEq (gVar 4) (gOk (.str "")))) [.dat .wd, .dat (T h), .dat (T (if t then tellsT else partsT)), .dat (T l), .dat (T r)] w3 = .ok false w3 :=
      gTst_ok (gBin_ok (a := T r) (b := T []) rfl (by rw [gOk_app, ee]) (by rw [oEq_T (asc_sub ha hr) (fun c h => by cases h)]; simp [hr0]))
    refine ⟨⟨t, l, r⟩, w3, runM_ret (sSeq_nx (sSet_ok e1') (sSeq_nx (sSet_ok (gCall_dat (ga2 rfl rfl) e2)) (sSeq_nx (sSet_ok (gCall_dat (ga2 rfl rfl) e3)) (sSeq_nx (sIf_f (w1 := w3) ?_ rfl) (fin _ _))))), hl, hr, hw3⟩
    exact gAnd_f t1
/-! ### heaps -/
theorem gLcY_inv {α : Type} {vs : List Nat} {gi : GA} {b : Bd} {ge : GE} {env : Dn.Env} {w w1 : Ds} (P : Ds → Prop) (R : List Dt → Prop) (xs : List α) (v : α → Dt) (f : α → Dt → Prop) (hi : gi env w = .ok (xs.map v) w1) (h0 : P w1)
    (h : ∀ x ∈ xs, ∃ e1, b (v x) (hide vs env) = some e1 ∧ ∀ w, P w → ∃ y w3, ge e1 w = .ok y w3 ∧ P w3 ∧ f x y) (hl : xs.length ≤ sizeLine)
    (hR : ∀ zs : List (α × Dt), zs.map (·.1) = xs → (∀ z ∈ zs, f z.1 z.2) → R (zs.map (·.2))) :
    ∃ ys w2, gLc vs gi b gYes ge env w = .ok (.lst ys) w2 ∧ P w2 ∧ R ys := by
  unfold gLc
  rw [hi]
  simp only [Out.bind]
  have key : ∀ (ys : List α) (acc : List Dt) (w : Ds), (∀ y ∈ ys, y ∈ xs) → acc.length + ys.length ≤ sizeLine → P w → ∃ rs w2, lcG b gYes ge (hide vs env) (ys.map v) acc w = .ok (acc ++ rs) w2 ∧ P w2 ∧ ∃ zs : List (α × Dt), zs.map (·.1) = ys ∧ (∀ z ∈ zs, f z.1 z.2) ∧ rs = zs.map (·.2) := by
    intro ys
    induction ys with
    | nil => intro acc w _ _ hP; exact ⟨[], w, by simp [lcG], hP, [], rfl, fun _ h => (nomatch h), rfl⟩
    | cons y ys ih =>
      intro acc w hy hacc hP
      obtain ⟨e1, h1, h2⟩ := h y (hy y List.mem_cons_self)
      obtain ⟨d, w3, h5, hP3, h6⟩ := h2 w hP
      rw [List.length_cons] at hacc
      rw [List.map_cons]
      unfold lcG
      rw [h1]
      simp only [gYes_app]
      rw [h5]
      simp only
      rw [if_pos (by omega)]
      obtain ⟨rs, w4, e, p4, zs, s1, s2⟩ := ih (acc ++ [d]) w3 (fun z hz => hy z (List.mem_cons_of_mem _ hz)) (by simp; omega) hP3
      exact ⟨d :: rs, w4, by rw [e]; simp, p4, (y, d) :: zs, by rw [List.map_cons, s1], fun z hz => (List.mem_cons.mp hz).elim (fun q => q ▸ h6) (s2.1 z), by rw [s2.2]; rfl⟩
  obtain ⟨rs, w2, e, p2, zs, z1, z2, z3⟩ := key xs [] w1 (fun _ h => h) (by simpa using hl) h0
  rw [e]
  exact ⟨rs, w2, by simp, p2, z3 ▸ hR _ z1 z2⟩
theorem each_as {α β : Type} {f : β → Dt} {p : β → Prop} : ∀ {zs : List (α × Dt)}, (∀ z ∈ zs, ∃ b, p b ∧ z.2 = f b) → ∃ bs : List β, bs.length = zs.length ∧ (∀ b ∈ bs, p b) ∧ zs.map (·.2) = bs.map f
  | [], _ => ⟨[], rfl, fun _ h => (nomatch h), rfl⟩
  | z :: zs, h => by
    obtain ⟨b, h1, h2⟩ := h z List.mem_cons_self
    obtain ⟨bs, h3, h4, h5⟩ := each_as (f := f) (p := p) (zs := zs) fun y hy => h y (List.mem_cons_of_mem _ hy)
    exact ⟨b :: bs, by simp [h3], fun c hc => (List.mem_cons.mp hc).elim (fun e => e ▸ h1) (h4 c), by rw [List.map_cons, h5, h2]; rfl⟩
/-! ### idle sayings -/
theorem withinL_iff {a b : Tx} : withinL a b = true ↔ ∀ c ∈ a, c ∈ b := by simp [withinL]
theorem withinL_not {a b : Tx} (h : withinL a b = false) : ∃ c ∈ a, c ∉ b := by
  unfold withinL at h
  rw [List.all_eq_false] at h
  obtain ⟨c, h1, h2⟩ := h
  exact ⟨c, h1, by simpa using h2⟩
theorem mem_unionL {a b : Tx} {c : Nat} : c ∈ unionL a b ↔ c ∈ a ∨ c ∈ b := by simp [unionL]
theorem clashP_none {h l t : Tx} {rows : List (List Int)} : ∀ {rest : List (List Int)}, clashP h l t rows rest = none ↔ ∀ a ∈ rest, ∀ b ∈ rows, badP rows h l t a b = false
  | [] => by simp [clashP]
  | a :: rest => by
    unfold clashP
    cases e : rows.find? (badP rows h l t a) with
    | none =>
      simp only
      rw [clashP_none]
      have := List.find?_eq_none.mp e
      refine ⟨fun h x hx b hb => ?_, fun h x hx => h x (List.mem_cons_of_mem _ hx)⟩
      rcases List.mem_cons.mp hx with rfl | hx
      · simpa using this b hb
      · exact h x hx b hb
    | some b =>
      simp only
      refine ⟨fun h => (nomatch h), fun h => ?_⟩
      have h1 := List.find?_some e
      rw [h a List.mem_cons_self b (List.mem_of_find?_eq_some e)] at h1
      cases h1
theorem badT_comm {h l r : Tx} {a b : List Int} : badT h l r a b = badT h l r b a := by
  unfold badT
  rw [decide_eq_decide.mpr (eq_comm (a := cellsL a h l)), decide_eq_decide.mpr (eq_comm (a := cellsL a h r))]
theorem clashT_none {h l r : Tx} : ∀ {rows : List (List Int)}, clashT h l r rows = none → ∀ a ∈ rows, ∀ b ∈ rows, a ≠ b → badT h l r a b = false
  | [], _, a, ha, _, _, _ => nomatch ha
  | x :: rest, e, a, ha, b, hb, hn => by
    unfold clashT at e
    cases ef : rest.find? (badT h l r x) with
    | some y => rw [ef] at e; cases e
    | none =>
      rw [ef] at e
      have hx := List.find?_eq_none.mp ef
      rcases List.mem_cons.mp ha with e1 | h1
      · rcases List.mem_cons.mp hb with e2 | h2
        · exact absurd (e1.trans e2.symm) hn
        · rw [e1]; simpa using hx b h2
      · rcases List.mem_cons.mp hb with e2 | h2
        · rw [e2, badT_comm]; simpa using hx a h1
        · exact clashT_none e a h1 b h2 hn
end Mi
end
section
/-! Texts cut at blanks. -/
namespace Mi
open PySem L2 Dn TL
end Mi
end
section
/-! Sayings read and written. -/
namespace Mi
open PySem L2 Dn
theorem str_empty : Str.ofString "" = sx [] := rfl
theorem asc_nil : Asc [] := fun _ h => nomatch h
abbrev signs : List (Str × Str) := [("tells", ">"), ("parts", ">>")]
def markT (t : Bool) : Tx := if t then [62] else [62, 62]
def wordT (t : Bool) : Tx := if t then tellsT else partsT
theorem lk_word (t : Bool) : lkS signs (sx (wordT t)) = some (sx (markT t)) := by cases t <;> decide +kernel
def okSide (x h : Tx) : Bool := isSetL x && withinL x h
theorem m_is_saying_eq {s : Sy} {h : Tx} {w : Ds} (hl : s.l.length ≤ 4000) (hr : s.r.length ≤ 4000) : m_is_saying [s.d, T h] w = .dat (.bl (okSide s.l h && okSide s.r h)) w := by
  have h0 : sAsg (bTup (bCons (bName 2) (bCons (bName 3) (bCons (bName 4) bNil)))) (gVar 0) [.dat s.d, .dat (T h), .un, .un, .un, .un] w = .nx [.dat s.d, .dat (T h), .dat (T s.word), .dat (T s.l), .dat (T s.r), .un] w := rfl
  have h1 : (gTst (gBind1 (oNotInKd signs) (gVar 2))) [.dat s.d, .dat (T h), .dat (T s.word), .dat (T s.l), .dat (T s.r), .un] w = .ok false w := by
    have : oNotInKd signs (T s.word) = some (.bl false) := by
      show some (Dt.bl (!(lkS signs (sx (wordT s.tells))).isSome)) = _
      rw [lk_word]; rfl
    simp only [gTst_app, gBind1, gVar_app, List.getElem?_cons_succ, List.getElem?_cons_zero, bind_ok, this]
  have e := gLc_map (vs := [5]) (gi := gIt srcD (gTup (gCons (gVar 3) (gCons (gVar 4) gNil)))) (b := bName 5) (gt := gYes) (ge := gAndV (gCall 1 [] m_is_set (gCons (gVar 5) gNil)) (gCall 2 [] m_within (gCons (gVar 5) (gCons (gVar 1) gNil))))
    (env := [.dat s.d, .dat (T h), .dat (T s.word), .dat (T s.l), .dat (T s.r), .un]) (w := w) (w1 := w) [s.l, s.r] T (fun _ => true) (fun x => .bl (okSide x h)) (gIt_ok (d := .tup [T s.l, T s.r]) (by simp [sz_line]) rfl)
    (fun x hx => ⟨[.dat s.d, .dat (T h), .dat (T s.word), .dat (T s.l), .dat (T s.r), .dat (T x)], rfl, rfl, fun _ => by
      have hxl : x.length ≤ 4000 := by simp at hx; rcases hx with rfl | rfl <;> assumption
      have e1 : (gCall 1 [] m_is_set (gCons (gVar 5) gNil)) [.dat s.d, .dat (T h), .dat (T s.word), .dat (T s.l), .dat (T s.r), .dat (T x)] w = .ok (.bl (isSetL x)) w := gCall_dat (ga1 rfl) (m_is_set_eq hxl)
      have e2 : (gCall 2 [] m_within (gCons (gVar 5) (gCons (gVar 1) gNil))) [.dat s.d, .dat (T h), .dat (T s.word), .dat (T s.l), .dat (T s.r), .dat (T x)] w = .ok (.bl (withinL x h)) w := gCall_dat (ga2 rfl rfl) (m_within_eq (by omega))
      unfold okSide
      cases c : isSetL x with
      | true => exact gAndV_t (w1 := w) (by rw [e1, c]) e2
      | false => exact gAndV_f (by rw [e1, c])⟩) (by rw [sz_line]; simp)
  rw [filter_tt] at e
  refine runM_ret (sSeq_nx h0 (sSeq_nx (sIf_f (w1 := w) h1 rfl) (sRet_ok (gArgs_ok (ga1 (gFrz_lst e)) ?_))))
  rw [show ([s.l, s.r].map fun x => Dt.bl (okSide x h)) = ([s.l, s.r].map fun x => Dt.bl ((fun x => okSide x h) x)) from rfl, oAll_map]
  simp
def badF : List (Str × Dt) := [("at", .int 0), ("word", .str "BadSaying")]
theorem m_looked_eq {s : Sy} {h : Tx} {w : Ds} (hl : s.l.length ≤ 4000) (hr : s.r.length ≤ 4000) : m_looked [s.d, T h, .int 0] w = if okSide s.l h && okSide s.r h then .dat .non w else .exc "BadSaying" badF w := by
  have e : (gNot (gTst (gCall 2 [] m_is_saying (gCons (gVar 0) (gCons (gVar 1) gNil))))) [.dat s.d, .dat (T h), .dat (.int 0)] w = .ok (!(okSide s.l h && okSide s.r h)) w := gNot_ok (gTst_ok (gCall_dat (ga2 rfl rfl) (m_is_saying_eq hl hr)))
  have e' : g_looked [.dat s.d, .dat (T h), .dat (.int 0)] w = if okSide s.l h && okSide s.r h then .nx [.dat s.d, .dat (T h), .dat (.int 0)] w else .exc "BadSaying" badF [.dat s.d, .dat (T h), .dat (.int 0)] w := by
    cases c : okSide s.l h && okSide s.r h with
    | true => exact sIf_f (w1 := w) (by rw [e, c]; rfl) rfl
    | false => exact sIf_t (w1 := w) (by rw [e, c]; rfl) rfl
  have e2 : m_looked [s.d, T h, .int 0] w = (match g_looked [.dat s.d, .dat (T h), .dat (.int 0)] w with
    | .nx _ w => .dat .non w
    | .ret d w => .dat d w
    | .rtf o w => .own o w
    | .exc c fs _ w => .exc c fs w
    | _ => .bad) := rfl
  rw [e2, e']
  cases okSide s.l h && okSide s.r h <;> rfl
theorem gIfE_t {c : GT} {g h : GE} {env : Dn.Env} {w w1 : Ds} {o : Out Dt} (e : c env w = .ok true w1) (e' : g env w1 = o) : gIfE c g h env w = o := by rw [gIfE_app, e]; exact e'
theorem gIfE_f {c : GT} {g h : GE} {env : Dn.Env} {w w1 : Ds} {o : Out Dt} (e : c env w = .ok false w1) (e' : h env w1 = o) : gIfE c g h env w = o := by rw [gIfE_app, e]; exact e'
theorem any_pl {n : Nat} {a : Dt} {p : PyData} (ha : Pl n a) (ea : toPy a = some p) : ∀ (ys : List Dt) {ps : List PyData}, (∀ y ∈ ys, Pl n y) → toPys ys = some ps → (anyEq p ps = true ↔ a ∈ ys)
  | [], ps, _, e => by simp [toPys] at e; subst e; simp [anyEq]
  | y :: ys, ps, h, e => by
    obtain ⟨q, e1, _, _⟩ := Pl.py (h y List.mem_cons_self)
    obtain ⟨qs, e2, _, _⟩ := pl_pys ys fun z hz => h z (List.mem_cons_of_mem _ hz)
    have e3 : ps = q :: qs := by simp [toPys, e1, e2] at e; exact e.symm
    subst e3
    have h1 := any_pl ha ea ys (fun z hz => h z (List.mem_cons_of_mem _ hz)) e2
    have h2 := Pl.eqv (h y List.mem_cons_self) ha e1 ea
    unfold anyEq at h1 ⊢
    rw [List.any_cons, Bool.or_eq_true, h1, h2, List.mem_cons]
    exact ⟨fun z => z.imp Eq.symm id, fun z => z.imp Eq.symm id⟩
theorem inD_pl {n : Nat} {a : Dt} {ys : List Dt} (ha : Pl n a) (hy : ∀ y ∈ ys, Pl n y) (hn : n + 1 ≤ 64 := by decide) : ∃ r, inD a (.lst ys) = some r ∧ (r = true ↔ a ∈ ys) := by
  obtain ⟨p, e1, c1, d1⟩ := ha.py
  obtain ⟨ps, e2, c2, d2⟩ := pl_pys ys hy
  refine ⟨anyEq p ps, ?_, any_pl ha e1 ys hy e2⟩
  have h : inD a (.lst ys) = ((toPy a).bind fun p => (toPys ys).bind fun ps => if SeqAt.shaped p = true ∧ SeqAt.shaped (.list ps) = true then some (anyEq p ps) else none) := by
    cases a <;> rfl
  rw [h, e1, e2]
  simp only [Option.bind]
  rw [if_pos ⟨by simp [SeqAt.shaped, c1]; omega, by simp [SeqAt.shaped, PyData.canLay0, PyData.depth, c2]; omega⟩]
theorem oIn_texts {x : Tx} {ws : List Tx} (hx : Asc x) (hw : ∀ p ∈ ws, Asc p) : oIn (T x) (.lst (ws.map T)) = some (.bl (decide (x ∈ ws))) := by
  obtain ⟨r, e, h⟩ := inD_pl (n := 0) (a := T x) (ys := ws.map T) (.str hx) fun y hy => by
    obtain ⟨p, hp, rfl⟩ := List.mem_map.mp hy
    exact .str (hw p hp)
  unfold oIn
  rw [e]
  have h2 : (T x ∈ ws.map T) ↔ x ∈ ws := by
    rw [List.mem_map]
    refine ⟨fun ⟨p, hp, ep⟩ => ?_, fun hp => ⟨x, hp, rfl⟩⟩
    have : p = x := by simpa [T] using ep
    exact this ▸ hp
  rw [h2] at h
  have : r = decide (x ∈ ws) := by
    by_cases c : x ∈ ws
    · rw [h.mpr c]; simp [c]
    · cases r with
      | false => simp [c]
      | true => exact absurd (h.mp rfl) c
  rw [this]; rfl
end Mi
end
section
/-! Books: sayings as triples of texts, what a Book makes of them. -/
namespace Dn
section
variable {env : Env} {w : Ds}
@[simp] theorem gBind1_app (f : Dt → Option Dt) (ga : GE) : gBind1 f ga env w = (ga env w).bind fun a w1 => match f a with
  | some r => .ok r w1
  | none => .bad := rfl
theorem gBind1_ok {f : Dt → Option Dt} {ga : GE} {a r : Dt} {w1 : Ds} (h : ga env w = .ok a w1) (hf : f a = some r) : gBind1 f ga env w = .ok r w1 := by simp [h, hf]
theorem gFrz_ok {g : GF} {o : Ow} {w1 : Ds} (h : g env w = .ok o w1) : gFrz g env w = .ok o.dt w1 := by simp [h]
theorem sSeq_exc {a b : GS} {c : PySem.Str} {fs : List (PySem.Str × Dt)} {e1 : Env} {w1 : Ds} (h : a env w = .exc c fs e1 w1) : sSeq a b env w = .exc c fs e1 w1 := by simp only [sSeq_app, h]
end
end Dn
namespace Mi
open PySem L2 Dn
/-! ### sayings as triples -/
structure Say where
  w : Tx
  l : Tx
  r : Tx
deriving DecidableEq
namespace Say
def d (s : Say) : Dt := .tup [T s.w, T s.l, T s.r]
def k (s : Say) : List Key := [.inr (sx s.w), .inr (sx s.l), .inr (sx s.r)]
theorem k_inj {a b : Say} (h : a.k = b.k) : a = b := by
  simp only [k, List.cons.injEq, Sum.inr.injEq, sx_eq, and_true] at h
  obtain ⟨h1, h2, h3⟩ := h
  cases a; cases b; simp_all
theorem d_inj {a b : Say} (h : a.d = b.d) : a = b := by
  simp only [d, Dt.tup.injEq, List.cons.injEq, Dt.str.injEq, sx_eq, and_true] at h
  obtain ⟨h1, h2, h3⟩ := h
  cases a; cases b; simp_all
@[simp] theorem keyT_d (s : Say) : keyT s.d = some s.k := rfl
theorem key_d (s : Say) : Dt.tup (s.k.map keyD) = s.d := rfl
/-- all short -/
structure Ok (s : Say) : Prop where
  aw : Asc s.w
  al : Asc s.l
  ar : Asc s.r
  lw : s.w.length ≤ 1000
  ll : s.l.length ≤ 1000
  lr : s.r.length ≤ 1000
theorem pl {s : Say} (h : s.Ok) {n : Nat} : Pl (n + 1) s.d := .tup fun x hx => by
  simp only [List.mem_cons, List.not_mem_nil, or_false] at hx
  rcases hx with rfl | rfl | rfl
  · exact .str h.aw
  · exact .str h.al
  · exact .str h.ar
end Say
def isSayB (s : Say) (h : Tx) : Bool := (decide (s.w = tellsT) || decide (s.w = partsT)) && (okSide s.l h && okSide s.r h)
theorem lk_signs (x : Tx) : (lkS signs (sx x)).isSome = (decide (x = tellsT) || decide (x = partsT)) := by
  unfold lkS signs
  rw [tells_str, parts_str]
  simp only [List.find?_cons, List.find?_nil, sx_eq]
  by_cases h1 : tellsT = x
  · subst h1; simp
  · by_cases h2 : partsT = x
    · subst h2; simp [h1]
    · simp [h1, h2, Ne.symm h1, Ne.symm h2]
theorem m_is_saying_eqB {s : Say} {h : Tx} {w : Ds} (hl : s.l.length ≤ 4000) (hr : s.r.length ≤ 4000) : m_is_saying [s.d, T h] w = .dat (.bl (isSayB s h)) w := by
  have h0 : sAsg (bTup (bCons (bName 2) (bCons (bName 3) (bCons (bName 4) bNil)))) (gVar 0) [.dat s.d, .dat (T h), .un, .un, .un, .un] w = .nx [.dat s.d, .dat (T h), .dat (T s.w), .dat (T s.l), .dat (T s.r), .un] w := rfl
  have h1 : (gTst (gBind1 (oNotInKd signs) (gVar 2))) [.dat s.d, .dat (T h), .dat (T s.w), .dat (T s.l), .dat (T s.r), .un] w = .ok (!(decide (s.w = tellsT) || decide (s.w = partsT))) w := by
    have : oNotInKd signs (T s.w) = some (.bl (!(decide (s.w = tellsT) || decide (s.w = partsT)))) := by
      show some (Dt.bl (!(lkS signs (sx s.w)).isSome)) = _
      rw [lk_signs]
    simp only [gTst_app, gBind1, gVar_app, List.getElem?_cons_succ, List.getElem?_cons_zero, bind_ok, this]
  unfold isSayB
  cases hw : (decide (s.w = tellsT) || decide (s.w = partsT)) with
  | false => exact runM_ret (sSeq_nx h0 (sSeq_ret (sIf_t (w1 := w) (by rw [h1, hw]; rfl) rfl)))
  | true =>
    have e := gLc_map (vs := [5]) (gi := gIt srcD (gTup (gCons (gVar 3) (gCons (gVar 4) gNil)))) (b := bName 5) (gt := gYes) (ge := gAndV (gCall 1 [] m_is_set (gCons (gVar 5) gNil)) (gCall 2 [] m_within (gCons (gVar 5) (gCons (gVar 1) gNil))))
      (env := [.dat s.d, .dat (T h), .dat (T s.w), .dat (T s.l), .dat (T s.r), .un]) (w := w) (w1 := w) [s.l, s.r] T (fun _ => true) (fun x => .bl (okSide x h)) (gIt_ok (d := .tup [T s.l, T s.r]) (by simp [sz_line]) rfl)
      (fun x hx => ⟨[.dat s.d, .dat (T h), .dat (T s.w), .dat (T s.l), .dat (T s.r), .dat (T x)], rfl, rfl, fun _ => by
        have hxl : x.length ≤ 4000 := by simp at hx; rcases hx with rfl | rfl <;> assumption
        have e1 : (gCall 1 [] m_is_set (gCons (gVar 5) gNil)) [.dat s.d, .dat (T h), .dat (T s.w), .dat (T s.l), .dat (T s.r), .dat (T x)] w = .ok (.bl (isSetL x)) w := gCall_dat (ga1 rfl) (m_is_set_eq hxl)
        have e2 : (gCall 2 [] m_within (gCons (gVar 5) (gCons (gVar 1) gNil))) [.dat s.d, .dat (T h), .dat (T s.w), .dat (T s.l), .dat (T s.r), .dat (T x)] w = .ok (.bl (withinL x h)) w := gCall_dat (ga2 rfl rfl) (m_within_eq (by omega))
        unfold okSide
        cases c : isSetL x with
        | true => exact gAndV_t (w1 := w) (by rw [e1, c]) e2
        | false => exact gAndV_f (by rw [e1, c])⟩) (by rw [sz_line]; simp)
    rw [filter_tt] at e
    refine runM_ret (sSeq_nx h0 (sSeq_nx (sIf_f (w1 := w) (by rw [h1, hw]; rfl) rfl) (sRet_ok (gArgs_ok (ga1 (gFrz_lst e)) ?_))))
    rw [show ([s.l, s.r].map fun x => Dt.bl (okSide x h)) = ([s.l, s.r].map fun x => Dt.bl ((fun x => okSide x h) x)) from rfl, oAll_map]
    simp
/-! ### unlike ones, in the order of their first places -/
def uniqF (acc : List Say) : List Say → List Say
  | [] => acc
  | x :: xs => uniqF (if x ∈ acc then acc else acc ++ [x]) xs
def uniq (xs : List Say) : List Say := uniqF [] xs
def kvsOf (ss : List Say) : List (List Key × Dt) := ss.map fun s => (s.k, .bl true)
theorem getG_kvs (ss : List Say) (s : Say) : (getG (kvsOf ss) s.k).isSome = decide (s ∈ ss) := by
  unfold getG kvsOf
  induction ss with
  | nil => rfl
  | cons a ss ih =>
    simp only [List.map_cons, List.find?_cons]
    by_cases h : a = s
    · subst h; simp
    · have : ¬ a.k = s.k := fun e => h (Say.k_inj e)
      simp only [this, decide_false]
      rw [ih]
      simp [Ne.symm h]
theorem setdG_kvs (ss : List Say) (s : Say) : setdG (kvsOf ss) s.k (.bl true) = kvsOf (if s ∈ ss then ss else ss ++ [s]) := by
  unfold setdG
  rw [getG_kvs]
  by_cases h : s ∈ ss
  · simp [h]
  · simp only [h, decide_false, if_false, Bool.false_eq_true]
    unfold putG
    have : ((kvsOf ss).any fun kv => decide (kv.1 = s.k)) = false := by
      have := getG_kvs ss s
      rw [List.any_eq_false]
      intro p hp
      simp only [h, decide_false] at this
      unfold getG at this
      rw [Option.isSome_map] at this
      intro z
      have h3 : ((kvsOf ss).find? fun kv => decide (kv.1 = s.k)).isSome = true := List.find?_isSome.mpr ⟨p, hp, z⟩
      rw [this] at h3
      cases h3
    rw [this]
    simp [kvsOf]
theorem uniqF_len : ∀ (xs acc : List Say), (uniqF acc xs).length ≤ acc.length + xs.length
  | [], acc => by simp [uniqF]
  | x :: xs, acc => by
    unfold uniqF
    have := uniqF_len xs (if x ∈ acc then acc else acc ++ [x])
    by_cases h : x ∈ acc
    · simp only [h, if_true] at this ⊢; simp; omega
    · simp only [h, if_false] at this ⊢; simp at this ⊢; omega
theorem mem_uniqF {s : Say} : ∀ {xs acc : List Say}, s ∈ uniqF acc xs ↔ s ∈ acc ∨ s ∈ xs
  | [], acc => by simp [uniqF]
  | x :: xs, acc => by
    unfold uniqF
    rw [mem_uniqF]
    by_cases h : x ∈ acc
    · simp only [h, if_true, List.mem_cons]
      constructor
      · rintro (h1 | h1)
        · exact .inl h1
        · exact .inr (.inr h1)
      · rintro (h1 | rfl | h1)
        · exact .inl h1
        · exact .inl h
        · exact .inr h1
    · simp only [h, if_false, List.mem_append, List.mem_cons, List.not_mem_nil, or_false]
      exact or_assoc
theorem mem_uniq {s : Say} {xs : List Say} : s ∈ uniq xs ↔ s ∈ xs := by unfold uniq; rw [mem_uniqF]; simp
theorem uniqF_nodup : ∀ {xs acc : List Say}, acc.Nodup → (uniqF acc xs).Nodup
  | [], _, h => h
  | x :: xs, acc, h => by
    unfold uniqF
    refine uniqF_nodup ?_
    split
    · exact h
    · rename_i hx
      rw [List.nodup_append]
      exact ⟨h, by simp, fun a ha b hb e => hx (by simp at hb; rw [← hb, ← e]; exact ha)⟩
theorem uniq_nodup (xs : List Say) : (uniq xs).Nodup := uniqF_nodup List.nodup_nil
theorem uniqF_id : ∀ {xs acc : List Say}, (acc ++ xs).Nodup → uniqF acc xs = acc ++ xs
  | [], acc, _ => by simp [uniqF]
  | x :: xs, acc, h => by
    unfold uniqF
    have hx : x ∉ acc := fun z => by
      rw [List.nodup_append] at h
      exact h.2.2 x z x List.mem_cons_self rfl
    rw [if_neg hx, uniqF_id (by simpa using h)]
    simp
theorem uniq_id {xs : List Say} (h : xs.Nodup) : uniq xs = xs := by unfold uniq; rw [uniqF_id (by simpa using h)]; rfl
/-! ### Book(..) -/
def bookF (h : Tx) (ss : List Say) : List (Str × Fv) := [("letters", .d (T h)), ("said", .l (ss.map Say.d))]
def bookD (h : Tx) (ss : List Say) : Dt := .obj "Book" [("letters", T h), ("said", .lst (ss.map Say.d))]
def goodH (h : Tx) : Bool := isSetL h && decide (2 ≤ h.length ∧ h.length ≤ 6)
/-- what Book(h, ss) comes to -/
inductive Bk where
  | cols
  | say (i : Nat)
  | full
  | ok (ss : List Say)
def bkOf (h : Tx) (ss : List Say) : Bk := if goodH h then (match ss.findIdx? (fun s => !isSayB s h) with
  | some i => .say i
  | none => if 12 < (uniq ss).length then .full else .ok (uniq ss)) else .cols
def Bk.fo (h : Tx) (w : Ds) : Bk → Fo
  | .cols => .exc "BadColumns" [("word", .str "BadColumns")] w
  | .say i => .exc "BadSaying" [("at", .int i), ("word", .str "BadSaying")] w
  | .full => .exc "Full" [("most", .int 12), ("word", .str "Full")] w
  | .ok ss => .own (.ins "Book" (bookF h ss)) w
abbrev E0 (h : Tx) (dd : Dt) (a b c : Sl) : Dn.Env := [.own (.slf "Book" []), .dat (T h), .dat dd, a, b, c]
theorem init0 {h : Tx} {dd : Dt} {w : Ds} : ∀ (ss : List Say) (k : Nat) (a b : Sl), (∀ s ∈ ss, s.Ok) →
    (∃ i, ss.findIdx? (fun s => !isSayB s h) = some i ∧ ∃ e, forG (bTup (bCons (bName 3) (bCons (bName 4) bNil))) b_Book___init___0 (enumD (k : Int) (ss.map Say.d)) (E0 h dd a b .un) w = .exc "BadSaying" [("at", .int ((k + i : Nat) : Int)), ("word", .str "BadSaying")] e w) ∨
    (ss.findIdx? (fun s => !isSayB s h) = none ∧ ∃ a' b', forG (bTup (bCons (bName 3) (bCons (bName 4) bNil))) b_Book___init___0 (enumD (k : Int) (ss.map Say.d)) (E0 h dd a b .un) w = .nx (E0 h dd a' b' .un) w)
  | [], k, a, b, _ => .inr ⟨rfl, a, b, rfl⟩
  | s :: ss, k, a, b, hs => by
    have ok := hs s List.mem_cons_self
    have t1 : (gNot (gTst (gCall 2 [] m_is_saying (gCons (gVar 4) (gCons (gVar 1) gNil))))) (E0 h dd (.dat (.int (k : Int))) (.dat s.d) .un) w = .ok (!isSayB s h) w := gNot_ok (gTst_ok (gCall_dat (ga2 rfl rfl) (m_is_saying_eqB (Nat.le_trans ok.ll (by decide)) (Nat.le_trans ok.lr (by decide)))))
    have e0 : enumD (k : Int) ((s :: ss).map Say.d) = .tup [.int (k : Int), s.d] :: enumD ((k + 1 : Nat) : Int) (ss.map Say.d) := rfl
    rw [e0]
    unfold forG
    rw [show bTup (bCons (bName 3) (bCons (bName 4) bNil)) (.tup [.int (k : Int), s.d]) (E0 h dd a b .un) = some (E0 h dd (.dat (.int (k : Int))) (.dat s.d) .un) from rfl]
    simp only
    rw [List.findIdx?_cons]
    cases hb : isSayB s h with
    | false =>
      refine .inl ⟨0, by simp, E0 h dd (.dat (.int (k : Int))) (.dat s.d) .un, ?_⟩
      have : b_Book___init___0 (E0 h dd (.dat (.int (k : Int))) (.dat s.d) .un) w = .exc "BadSaying" [("at", .int (k : Int)), ("word", .str "BadSaying")] (E0 h dd (.dat (.int (k : Int))) (.dat s.d) .un) w := sIf_t (w1 := w) (by rw [t1, hb]; rfl) rfl
      rw [this]
      rfl
    | true =>
      have : b_Book___init___0 (E0 h dd (.dat (.int (k : Int))) (.dat s.d) .un) w = .nx (E0 h dd (.dat (.int (k : Int))) (.dat s.d) .un) w := sIf_f (w1 := w) (by rw [t1, hb]; rfl) rfl
      rw [this]
      simp only [Bool.not_true, Bool.false_eq_true, if_false]
      rcases init0 ss (k + 1) (.dat (.int (k : Int))) (.dat s.d) fun x hx => hs x (List.mem_cons_of_mem _ hx) with ⟨i, h1, e, h2⟩ | ⟨h1, a', b', h2⟩
      · refine .inl ⟨i + 1, by rw [h1]; rfl, e, ?_⟩
        rw [h2]
        have : k + 1 + i = k + (i + 1) := by omega
        rw [this]
      · exact .inr ⟨by rw [h1]; rfl, a', b', h2⟩
theorem init1 {h : Tx} {dd : Dt} {w : Ds} {a : Sl} : ∀ (ss acc : List Say) (b : Sl), acc.length + ss.length < 100000 → ∃ b', forG (bName 4) b_Book___init___1 (ss.map Say.d) (E0 h dd a b (.own (.dT (kvsOf acc)))) w = .nx (E0 h dd a b' (.own (.dT (kvsOf (uniqF acc ss))))) w
  | [], acc, b, _ => ⟨b, rfl⟩
  | s :: ss, acc, b, hl => by
    rw [List.length_cons] at hl
    have hk : (kvsOf acc).length < sizeLine := by rw [sz_line]; simp [kvsOf]; omega
    have body : b_Book___init___1 (E0 h dd a (.dat s.d) (.own (.dT (kvsOf acc)))) w = .nx (E0 h dd a (.dat s.d) (.own (.dT (kvsOf (if s ∈ acc then acc else acc ++ [s]))))) w := by
      show sSetd 5 (gVar 4) (gOk (.bl true)) (E0 h dd a (.dat s.d) (.own (.dT (kvsOf acc)))) w = _
      unfold sSetd
      simp only [List.getElem?_cons_succ, List.getElem?_cons_zero, gVar_app, gOk_app, Say.keyT_d, if_pos hk, setdG_kvs]
      rfl
    rw [List.map_cons]
    unfold forG
    rw [show bName 4 s.d (E0 h dd a b (.own (.dT (kvsOf acc)))) = some (E0 h dd a (.dat s.d) (.own (.dT (kvsOf acc)))) from rfl]
    simp only
    rw [body]
    simp only
    unfold uniqF
    refine init1 ss _ _ ?_
    split
    · omega
    · simp; omega
theorem m_Book___init___eq {h : Tx} {ss : List Say} {dd : Dt} {w : Ds} (hd : srcD dd = some (ss.map Say.d)) (hh : h.length ≤ 4000) (hs : ∀ s ∈ ss, s.Ok) (hl : ss.length < 10000) : m_Book___init__ [T h, dd] w = (bkOf h ss).fo h w := by
  have key : m_Book___init__ [T h, dd] w = (match g_Book___init__ (E0 h dd .un .un .un) w with
    | .nx (.own (.slf c' fs) :: _) w => if c' = "Book" then .own (.ins "Book" fs) w else .bad
    | .exc c fs _ w => .exc c fs w
    | _ => .bad) := rfl
  have t1 : (gOr (gNot (gTst (gCall 1 [] m_is_set (gCons (gVar 1) gNil)))) (gNot (gTst (gChain oLe oLe (gOk (.int 2)) (gArgs oLen (gCons (gVar 1) gNil)) (gOk (.int 6)))))) (E0 h dd .un .un .un) w = .ok (!goodH h) w := by
    have e1 : (gNot (gTst (gCall 1 [] m_is_set (gCons (gVar 1) gNil)))) (E0 h dd .un .un .un) w = .ok (!isSetL h) w := gNot_ok (gTst_ok (gCall_dat (ga1 rfl) (m_is_set_eq hh)))
    have e2 : (gNot (gTst (gChain oLe oLe (gOk (.int 2)) (gArgs oLen (gCons (gVar 1) gNil)) (gOk (.int 6))))) (E0 h dd .un .un .un) w = .ok (!decide (2 ≤ h.length ∧ h.length ≤ 6)) w := by
      refine gNot_ok (gTst_ok ?_)
      unfold gChain
      rw [gOk_app, bind_ok, gArgs_ok (ga1 rfl) (oLen_T (by omega)), bind_ok]
      simp only [oLe_int]
      by_cases c : 2 ≤ h.length
      · have c' : (2 : Int) ≤ (h.length : Int) := by omega
        simp only [c', decide_true, gOk_app, bind_ok]
        congr 2
        by_cases c2 : h.length ≤ 6
        · have c2' : (h.length : Int) ≤ 6 := by omega
          simp [c, c2, c2']
        · have c2' : ¬ (h.length : Int) ≤ 6 := by omega
          simp [c, c2, c2']
      · have c' : ¬ (2 : Int) ≤ (h.length : Int) := by omega
        simp [c, c']
    rw [gOr_ok e1 e2]
    unfold goodH
    cases isSetL h <;> simp
  rw [key]
  unfold bkOf
  cases hg : goodH h with
  | false =>
    have : g_Book___init__ (E0 h dd .un .un .un) w = .exc "BadColumns" [("word", .str "BadColumns")] (E0 h dd .un .un .un) w := sSeq_exc (sIf_t (w1 := w) (by rw [t1, hg]; rfl) rfl)
    rw [this]
    rfl
  | true =>
    have s1 : sIf (gOr (gNot (gTst (gCall 1 [] m_is_set (gCons (gVar 1) gNil)))) (gNot (gTst (gChain oLe oLe (gOk (.int 2)) (gArgs oLen (gCons (gVar 1) gNil)) (gOk (.int 6)))))) (sRaise "BadColumns" 0 [] "word" "BadColumns" gNil) sSkip (E0 h dd .un .un .un) w = .nx (E0 h dd .un .un .un) w := sIf_f (w1 := w) (by rw [t1, hg]; rfl) rfl
    have hen : gIts (oEnum 0) (gCons (gVar 2) gNil) (E0 h dd .un .un .un) w = .ok (enumD ((0 : Nat) : Int) (ss.map Say.d)) w := gIts_ok (ga1 rfl) (by unfold oEnum; simp only [hd]; rfl)
    rcases init0 (h := h) (dd := dd) (w := w) ss 0 .un .un hs with ⟨i, h1, e, h2⟩ | ⟨h1, a', b', h2⟩
    · have : g_Book___init__ (E0 h dd .un .un .un) w = .exc "BadSaying" [("at", .int ((0 + i : Nat) : Int)), ("word", .str "BadSaying")] e w := sSeq_nx s1 (sSeq_exc (sFor_ok hen h2))
      rw [this, h1]
      simp [Bk.fo]
    · obtain ⟨b2, h3⟩ := init1 (h := h) (dd := dd) (w := w) (a := a') ss [] b' (by simp; omega)
      have s2 : sFor (gIts (oEnum 0) (gCons (gVar 2) gNil)) (bTup (bCons (bName 3) (bCons (bName 4) bNil))) b_Book___init___0 (E0 h dd .un .un .un) w = .nx (E0 h dd a' b' .un) w := sFor_ok hen h2
      have s3 : sSetF 5 gDnew (E0 h dd a' b' .un) w = .nx (E0 h dd a' b' (.own (.dT (kvsOf [])))) w := rfl
      have s4 : sFor (gIt srcD (gVar 2)) (bName 4) b_Book___init___1 (E0 h dd a' b' (.own (.dT (kvsOf [])))) w = .nx (E0 h dd a' b2 (.own (.dT (kvsOf (uniq ss))))) w := sFor_ok (gIt_ok rfl hd) h3
      have t2 : (gLendT (gTst (gBin oGt (gArgs oLenT (gCons (gVar 5) gNil)) (gOk (.int 12))))) (E0 h dd a' b2 (.own (.dT (kvsOf (uniq ss))))) w = .ok (decide (12 < (uniq ss).length)) w := by
        refine gLendT_ok (gTst_ok (gBin_ok (gArgs_ok (ga1 rfl) rfl) rfl ?_))
        rw [oGt_int]
        congr 2
        have : ((kvsOf (uniq ss)).length : Int) = ((uniq ss).length : Int) := by simp [kvsOf]
        rw [this]
        exact decide_eq_decide.mpr (by omega)
      rw [h1]
      simp only [if_true]
      by_cases hf : 12 < (uniq ss).length
      · have : g_Book___init__ (E0 h dd .un .un .un) w = .exc "Full" [("most", .int 12), ("word", .str "Full")] (E0 h dd a' b2 (.own (.dT (kvsOf (uniq ss))))) w := sSeq_nx s1 (sSeq_nx s2 (sSeq_nx s3 (sSeq_nx s4 (sSeq_exc (sIf_t (w1 := w) (by rw [t2]; simp [hf]) rfl)))))
        rw [this, if_pos hf]
        rfl
      · have s5 : sSelf ["Book"] "letters" (gVar 1) (E0 h dd a' b2 (.own (.dT (kvsOf (uniq ss))))) w = .nx [.own (.slf "Book" [("letters", .d (T h))]), .dat (T h), .dat dd, a', b2, .own (.dT (kvsOf (uniq ss)))] w := rfl
        have hu : ∀ s ∈ uniq ss, s.Ok := fun s h => hs s (mem_uniq.mp h)
        have fl : flats ((uniq ss).map Say.d) = true := by
          generalize uniq ss = us
          induction us with
          | nil => rfl
          | cons a us ih => simp [flats, ih, Say.d, flat]
        have e6 : (gLendF (gArgsF oListT (gCons (gVar 5) gNil))) [.own (.slf "Book" [("letters", .d (T h))]), .dat (T h), .dat dd, a', b2, .own (.dT (kvsOf (uniq ss)))] w = .ok (.lst ((uniq ss).map Say.d)) w := by
          refine gLendF_lst (gArgsF_ok (ga1 rfl) ?_) fl
          show some (Ow.lst ((kvsOf (uniq ss)).map fun kv => Dt.tup (kv.1.map keyD))) = _
          simp [kvsOf, List.map_map, Function.comp_def, Say.key_d]
        have s6 : sSelfL ["Book"] "said" (gLendF (gArgsF oListT (gCons (gVar 5) gNil))) [.own (.slf "Book" [("letters", .d (T h))]), .dat (T h), .dat dd, a', b2, .own (.dT (kvsOf (uniq ss)))] w = .nx [.own (.slf "Book" (bookF h (uniq ss))), .dat (T h), .dat dd, a', b2, .own (.dT (kvsOf (uniq ss)))] w := by
          unfold sSelfL
          rw [e6]
          rfl
        have : g_Book___init__ (E0 h dd .un .un .un) w = .nx [.own (.slf "Book" (bookF h (uniq ss))), .dat (T h), .dat dd, a', b2, .own (.dT (kvsOf (uniq ss)))] w := sSeq_nx s1 (sSeq_nx s2 (sSeq_nx s3 (sSeq_nx s4 (sSeq_nx (sIf_f (w1 := w) (by rw [t2]; simp [hf]) rfl) (sSeq_nx s5 s6)))))
        rw [this, if_neg hf]
        rfl
end Mi
end
section
/-! Books, what the laws draw for them: unlike ones, sayings drawn, heads and sayings that are none. -/
namespace Mi
open PySem L2 Dn
/-! ### small -/
theorem gLst_ok' {g : GA} {env : Dn.Env} {w w1 : Ds} {ds : List Dt} (h : g env w = .ok ds w1) (hl : ds.length ≤ 16777216) : gLst g env w = .ok (.lst ds) w1 := by rw [gLst_app, h, bind_ok, if_pos (by rw [sz_line]; exact hl)]
theorem gTup_ok {g : GA} {env : Dn.Env} {w w1 : Ds} {ds : List Dt} (h : g env w = .ok ds w1) (hl : ds.length ≤ 16777216) : gTup g env w = .ok (.tup ds) w1 := by rw [gTup_app, h, bind_ok, if_pos (by rw [sz_line]; exact hl)]
theorem gFL {g : GA} {env : Dn.Env} {w w1 : Ds} {ds : List Dt} (h : g env w = .ok ds w1) (hl : ds.length ≤ 16777216) : gFrz (gLst g) env w = .ok (.lst ds) w1 := gFrz_lst (gLst_ok' h hl)
theorem hd_good {h : Tx} (H : Hd h) : goodH h = true := by
  unfold goodH isSetL
  have h1 : h.all (fun c => decide (c ∈ letters)) = true := List.all_eq_true.mpr fun c hc => by simpa using H.let_ c hc
  rw [h1, adj_ris.mpr H.ris]
  simp [H.lo, H.hi]
/-! ### heads that are none -/
/-! ### sayings that are none -/
theorem nd_le : ∀ {xs ys : Tx}, xs.Nodup → (∀ c ∈ xs, c ∈ ys) → xs.length ≤ ys.length
  | [], _, _, _ => by simp
  | x :: xs, ys, n, h => by
    have hn := List.nodup_cons.mp n
    have hx := h x List.mem_cons_self
    have := nd_le (xs := xs) (ys := ys.erase x) hn.2 fun c hc => (List.mem_erase_of_ne (fun e : c = x => hn.1 (e ▸ hc))).mpr (h c (List.mem_cons_of_mem _ hc))
    rw [List.length_erase_of_mem hx] at this
    have := List.length_pos_of_mem hx
    simp only [List.length_cons]
    omega
/-! ### unlike ones -/
theorem m__law_unlike_eq {ss : List Say} {w : Ds} (hs : ∀ s ∈ ss, s.Ok) (hl : ss.length ≤ 4000) : m__law_unlike [.lst (ss.map Say.d)] w = .own (.lst ((uniq ss).map Say.d)) w := by
  have key : ∀ (xs acc : List Say) (k : Sl), (∀ s ∈ acc, s.Ok) → (∀ s ∈ xs, s.Ok) → acc.length + xs.length ≤ 4000 → ∃ k', forG (bName 2) b__law_unlike_0 (xs.map Say.d) [.dat (.lst (ss.map Say.d)), .own (.lst (acc.map Say.d)), k] w = .nx [.dat (.lst (ss.map Say.d)), .own (.lst ((uniqF acc xs).map Say.d)), k'] w := by
    intro xs
    induction xs with
    | nil => exact fun acc k _ _ _ => ⟨k, rfl⟩
    | cons x xs ih =>
      intro acc k ha hx hl
      rw [List.length_cons] at hl
      rw [List.map_cons]
      unfold forG
      rw [show bName 2 x.d [.dat (.lst (ss.map Say.d)), .own (.lst (acc.map Say.d)), k] = some [.dat (.lst (ss.map Say.d)), .own (.lst (acc.map Say.d)), .dat x.d] from rfl]
      simp only
      obtain ⟨r, er, hr⟩ := inD_pl (n := 1) (a := x.d) (ys := acc.map Say.d) (Say.pl (hx x List.mem_cons_self)) (fun y hy => by
        obtain ⟨s, hs, rfl⟩ := List.mem_map.mp hy
        exact Say.pl (ha s hs))
      have hr' : r = decide (x ∈ acc) := by
        rw [Bool.eq_iff_iff, hr, decide_eq_true_eq]
        exact ⟨fun h => by
          obtain ⟨s, hs, e⟩ := List.mem_map.mp h
          rw [← Say.d_inj e]
          exact hs, fun h => List.mem_map.mpr ⟨x, h, rfl⟩⟩
      have t1 : (gLendT (gTst (gBin oNotIn (gVar 2) (gVar 1)))) [.dat (.lst (ss.map Say.d)), .own (.lst (acc.map Say.d)), .dat x.d] w = .ok (!decide (x ∈ acc)) w := by
        refine gLendT_ok (gTst_ok (gBin_ok (a := x.d) (b := .lst (acc.map Say.d)) rfl rfl ?_))
        unfold oNotIn
        rw [er, hr']
        rfl
      have body : b__law_unlike_0 [.dat (.lst (ss.map Say.d)), .own (.lst (acc.map Say.d)), .dat x.d] w = .nx [.dat (.lst (ss.map Say.d)), .own (.lst ((if x ∈ acc then acc else acc ++ [x]).map Say.d)), .dat x.d] w := by
        by_cases hm : x ∈ acc
        · rw [if_pos hm]
          exact sIf_f (w1 := w) (by rw [t1]; simp [hm]) rfl
        · rw [if_neg hm]
          refine sIf_t (w1 := w) (by rw [t1]; simp [hm]) ?_
          show sLm 1 fApp (gCons (gVar 2) gNil) _ w = _
          have hk : (acc.map Say.d).length < sizeLine := by rw [sz_line, List.length_map]; omega
          simp only [sLm_app, List.getElem?_cons_succ, List.getElem?_cons_zero, gCons_app, gVar_app, gNil_app, bind_ok, fApp, if_pos hk, List.map_append, List.map_cons, List.map_nil]
          rfl
      rw [body]
      simp only
      unfold uniqF
      refine ih _ _ ?_ (fun s h => hx s (List.mem_cons_of_mem _ h)) ?_
      · split
        · exact ha
        · intro s h
          rcases List.mem_append.mp h with h | h
          · exact ha s h
          · rw [List.mem_singleton.mp h]; exact hx x List.mem_cons_self
      · split
        · omega
        · simp; omega
  obtain ⟨k', e⟩ := key ss [] .un (fun _ h => by cases h) hs (by simpa using hl)
  exact runM_rtf (sSeq_nx (sSetF_ok (d := .lst []) (w1 := w) rfl) (sSeq_nx (sFor_ok (gIt_ok rfl rfl) e) rfl))
/-! ### sayings drawn -/
def sayOf (s : Sy) : Say := ⟨s.word, s.l, s.r⟩
/-- a saying over a head -/
structure SayH (h : Tx) (s : Say) : Prop where
  wd : s.w = tellsT ∨ s.w = partsT
  l : s.l.Sublist h
  r : s.r.Sublist h
theorem SayH.ok {h : Tx} {s : Say} (H : Hd h) (a : SayH h s) : s.Ok := by
  have h1 := a.l.length_le
  have h2 := a.r.length_le
  have h3 := H.hi
  refine ⟨?_, asc_sub H.asc a.l, asc_sub H.asc a.r, ?_, by omega, by omega⟩
  · rcases a.wd with e | e <;> rw [e]
    · exact tells_asc
    · exact parts_asc
  · rcases a.wd with e | e <;> rw [e] <;> decide
theorem set_sub {h a : Tx} (H : Hd h) (s : a.Sublist h) : isSetL a = true := by
  unfold isSetL
  rw [Bool.and_eq_true]
  exact ⟨List.all_eq_true.mpr fun c hc => by simpa using H.let_ c (s.subset hc), adj_ris.mpr (H.ris.sublist s)⟩
theorem SayH.say {h : Tx} {s : Say} (H : Hd h) (a : SayH h s) : isSayB s h = true := by
  unfold isSayB okSide
  rw [set_sub H a.l, set_sub H a.r, withinL_iff.mpr fun c hc => a.l.subset hc, withinL_iff.mpr fun c hc => a.r.subset hc]
  rcases a.wd with e | e <;> simp [e]
theorem sayOf_h {s : Sy} {h : Tx} (hl : s.l.Sublist h) (hr : s.r.Sublist h) : SayH h (sayOf s) := ⟨by
  show s.word = tellsT ∨ s.word = partsT
  unfold Sy.word
  split
  · exact .inl rfl
  · exact .inr rfl, hl, hr⟩
theorem m__law_said_eq {w : Ds} {h : Tx} {most : Nat} (hw : Wk w) (H : Hd h) (hm : most ≤ 100) : ∃ (ss : List Say) (w' : Ds), m__law_said [.wd, T h, .int (most : Int)] w = .own (.lst (ss.map Say.d)) w' ∧ ss.Nodup ∧ ss.length ≤ most ∧ (∀ s ∈ ss, SayH h s) ∧ Wk w' := by
  have hi := H.hi
  have lo := H.lo
  obtain ⟨q, w1, e1, q0, q1, hw1⟩ := m__law_draw_eq hw (many := (most : Int) + 1) (by omega) (by omega)
  obtain ⟨n, rfl⟩ : ∃ n : Nat, q = n := ⟨q.toNat, by omega⟩
  obtain ⟨ys, w2, e2, hw2, zs, ez, ey, hz⟩ := gLcY_inv (vs := [3]) (gi := gIts oRng1 (gCons (gCall 2 [] m__law_draw (gCons (gVar 0) (gCons (gBin oAdd (gVar 2) (gOk (.int 1))) gNil))) gNil)) (b := bName 3) (ge := gCall 2 [] m__law_saying (gCons (gVar 0) (gCons (gVar 1) gNil)))
    (env := [.dat .wd, .dat (T h), .dat (.int (most : Int)), .un]) (w := w) (w1 := w1) Wk (fun ys => ∃ zs : List Say, zs.length = n ∧ ys = zs.map Say.d ∧ ∀ s ∈ zs, SayH h s) (List.range n) (fun k : Nat => .int (k : Int)) (fun _ d => ∃ s : Say, SayH h s ∧ d = s.d)
    (gIts_ok (ga1 (gCall_dat (ga2 rfl (gBin_ok rfl rfl (by rw [oAdd_int]))) e1)) (oRng1_nat n (by omega))) hw1
    (fun k hk => ⟨_, rfl, fun w hw => by
      obtain ⟨s, w3, e3, hl, hr, hw3⟩ := m__law_saying_eq hw (h := h) (by omega) (by omega) H.asc
      exact ⟨s.d, w3, gCall_dat (ga2 rfl rfl) e3, hw3, sayOf s, sayOf_h hl hr, rfl⟩⟩) (by rw [sz_line, List.length_range]; omega)
    (fun zs h1 h2 => by
      obtain ⟨bs, b1, b2, b3⟩ := each_as (f := Say.d) (p := SayH h) h2
      exact ⟨bs, by rw [b1, ← List.length_map (as := zs) (·.1), h1, List.length_range], b3, b2⟩)
  subst ey
  have hu := uniqF_len zs []
  refine ⟨uniq zs, w2, runM_rtf (sRetC_own (ga1 (gFrz_lst e2)) (m__law_unlike_eq (fun s h => (hz s h).ok H) (by omega))), uniq_nodup zs, ?_, fun s hs => hz s (mem_uniq.mp hs), hw2⟩
  show (uniqF [] zs).length ≤ most
  simp at hu
  omega
end Mi
end
section
/-! k08: many sayings, what a Book made or refused answers. -/
namespace Mi
open PySem L2 Dn
theorem oLen_lst {ds : List Dt} (h : ds.length ≤ 16777216) : oLen [.lst ds] = some (.int (ds.length : Int)) := by
  first
  | rfl
  | (show (if ds.length ≤ sizeLine then some (Dt.int (ds.length : Int)) else none) = _
     rw [if_pos (by rw [sz_line]; exact h)])
/-! ### Book(..) made or refused -/
def Bk.d : Bk → Dt
  | .cols => .tup [.str "BadColumns", .bl true, .bl false]
  | .say i => .tup [.str "BadSaying", .int i, .bl true, .bl false]
  | .full => .tup [.str "Full", .int 12, .bl false, .bl true]
  | .ok ss => .int (ss.length : Int)
end Mi
end
section
/-! Books told: sorted sayings, ==, pages, words for them. -/
namespace Mi
open PySem L2 Dn
open PyProof.Rows
open PySem.W (AllAlike Sortable dataLe alike alikeAll)
/-! ### sorted(sayings) -/
/-! ### lists of sayings, == -/
def LS (ss : List Say) : Dt := .lst (ss.map Say.d)
theorem map_d_inj : ∀ {a b : List Say}, a.map Say.d = b.map Say.d → a = b
  | [], [], _ => rfl
  | a :: as, b :: bs, h => by
    simp only [List.map_cons, List.cons.injEq] at h
    rw [Say.d_inj h.1, map_d_inj h.2]
  | [], _ :: _, h => by cases h
  | _ :: _, [], h => by cases h
theorem LS_inj {a b : List Say} (h : LS a = LS b) : a = b := map_d_inj (by simpa [LS] using h)
theorem pl_LS {ss : List Say} (h : ∀ s ∈ ss, s.Ok) : Pl 2 (LS ss) := .lst fun x hx => by
  obtain ⟨s, hs, rfl⟩ := List.mem_map.mp hx
  exact Say.pl (h s hs)
theorem oEq_LS {a b : List Say} (ha : ∀ s ∈ a, s.Ok) (hb : ∀ s ∈ b, s.Ok) : oEq (LS a) (LS b) = some (.bl (decide (a = b))) := by
  unfold oEq
  rw [eqD_inj (f := LS) (fun _ _ => LS_inj) (pl_LS ha) (pl_LS hb)]
  rfl
/-! ### methods that tell -/
theorem m_Book_sayings_eq {h : Tx} {ss : List Say} {w : Ds} : m_Book_sayings [bookD h ss] w = .own (.lst (ss.map Say.d)) w := runM_rtf rfl
theorem oEq_tells {x : Tx} (h : Asc x) : oEq (T x) (.str "tells") = some (.bl (decide (x = tellsT))) := by
  rw [tells_str]
  exact oEq_T h tells_asc
end Mi
end
section
/-! Books told: pages, words for them. -/
namespace Mi
open PySem L2 Dn PySem.Spec PyProof.Rows
/-! ### texts put together -/
theorem oEq_nil {x : Tx} (h : Asc x) : oEq (T x) (.str "") = some (.bl (decide (x = []))) := by
  rw [str_empty]
  exact oEq_T h asc_nil
/-! ### joined -/
theorem sum_le : ∀ {l : List Nat} {n : Nat}, (∀ x ∈ l, x ≤ n) → l.sum ≤ l.length * n
  | [], _, _ => by simp
  | a :: l, n, h => by
    have h1 := h a List.mem_cons_self
    have h2 := sum_le fun x hx => h x (List.mem_cons_of_mem _ hx)
    simp only [List.sum_cons, List.length_cons, Nat.add_mul, Nat.one_mul]
    omega
/-! ### repr -/
end Mi
end
section
/-! Books told: repr, all at once; Books made of sayings over their head. -/
namespace Mi
open PySem L2 Dn PySem.Spec PyProof.Rows
/-! ### a Book is told as it should be -/
/-! ### Books of sayings over their head -/
theorem bk_ok {h : Tx} {ss : List Say} (H : Hd h) (hs : ∀ s ∈ ss, SayH h s) (hl : (uniq ss).length ≤ 12) : bkOf h ss = .ok (uniq ss) := by
  unfold bkOf
  rw [hd_good H]
  have : ss.findIdx? (fun s => !isSayB s h) = none := by
    rw [List.findIdx?_eq_none_iff]
    intro s h
    rw [(hs s h).say H]
    rfl
  rw [this]
  simp only [if_true, if_neg (Nat.not_lt.mpr hl)]
theorem made_ok {h : Tx} {ss us : List Say} {dd : Dt} {w : Ds} (H : Hd h) (hd : srcD dd = some (ss.map Say.d)) (hs : ∀ s ∈ ss, SayH h s) (hu : uniq ss = us) (hl : us.length ≤ 12) (hl2 : ss.length ≤ 1000) : m_Book___init__ [T h, dd] w = .own (.ins "Book" (bookF h us)) w := by
  have := H.hi
  rw [m_Book___init___eq hd (by omega) (fun s h => (hs s h).ok H) (by omega), bk_ok H hs (by rw [hu]; exact hl), hu]
  rfl
end Mi
end
section
/-! Sayings written and read. -/
namespace Mi
open PySem L2 Dn PySem.Spec PyProof.Rows TL
/-! ### words -/
/-! ### what a text reads as -/
end Mi
end
section
/-! Sayings read by the program; written; spoilt. -/
namespace Mi
open PySem L2 Dn PySem.Spec PyProof.Rows TL
theorem gCall_dd {na : Nat} {m : Mf} {ga : GA} {ds dds : List Dt} {r : Dt} {env : Dn.Env} {w w1 w2 : Ds} (h : ga env w = .ok ds w1) (hm : m (ds ++ dds) w1 = .dat r w2) (hn : ds.length = na := by rfl) : gCall na dds m ga env w = .ok r w2 := by
  simp only [gCall_app, h, bind_ok, if_pos hn, hm]
theorem sDrop_ok {g : GE} {env : Dn.Env} {w w1 : Ds} {d : Dt} (h : g env w = .ok d w1) : sDrop g env w = .nx env w1 := by simp only [sDrop_app, h]
end Mi
end
section
/-! Sayings written; texts spoilt. -/
namespace Mi
open PySem L2 Dn PySem.Spec PyProof.Rows TL
/-! ### what is written reads as it was -/
/-! ### texts cut and joined -/
end Mi
end
section
/-! Blocks: cuts by ways, any order, end alike. Plain lists. -/
namespace Mi
open PySem L2 Dn
abbrev Way := Tx × Tx
def cutB (b : Tx) (w : Way) : Bool := decide (commonL b w.1 = []) && (!decide (commonL b w.2 = []) && !decide (commonL b w.2 = b))
theorem mem_withoutL {a b : Tx} {c : Nat} : c ∈ withoutL a b ↔ c ∈ a ∧ c ∉ b := by simp [withoutL]
theorem common_nil {a b : Tx} : commonL a b = [] ↔ ∀ c ∈ a, c ∉ b := by
  unfold commonL
  rw [List.filter_eq_nil_iff]
  simp
theorem common_all {a b : Tx} : commonL a b = a ↔ ∀ c ∈ a, c ∈ b := by
  unfold commonL
  rw [List.filter_eq_self]
  simp
structure Part (R : Tx) (P : List Tx) : Prop where
  sub : ∀ b ∈ P, b.Sublist R
  ne : ∀ b ∈ P, b ≠ []
  all : ∀ c ∈ R, ∃ b ∈ P, c ∈ b
  dis : P.Pairwise fun a b => ∀ c, c ∈ a → c ∉ b
  sum : (P.map (·.length)).sum = R.length
theorem sum_perm {P Q : List Tx} (h : P.Perm Q) : (P.map (·.length)).sum = (Q.map (·.length)).sum := by
  induction h with
  | nil => rfl
  | cons x _ ih => simp [ih]
  | swap x y l => simp; omega
  | trans _ _ h1 h2 => exact h1.trans h2
theorem Part.perm {R : Tx} {P Q : List Tx} (a : Part R P) (h : P.Perm Q) : Part R Q where
  sub := fun b hb => a.sub b (h.mem_iff.mpr hb)
  ne := fun b hb => a.ne b (h.mem_iff.mpr hb)
  all := fun c hc => by
    obtain ⟨b, hb, hc⟩ := a.all c hc
    exact ⟨b, h.mem_iff.mp hb, hc⟩
  dis := (h.pairwise_iff fun {x y} hxy c hy hx => hxy c hx hy).mp a.dis
  sum := by rw [← sum_perm h]; exact a.sum
theorem len_split (a b : Tx) : (commonL a b).length + (withoutL a b).length = a.length := by
  unfold commonL withoutL
  induction a with
  | nil => rfl
  | cons c a ih =>
    by_cases h : c ∈ b
    · simp only [List.filter_cons, h, decide_true, if_true, Bool.not_true, Bool.false_eq_true, if_false, List.length_cons] at ih ⊢
      omega
    · simp only [List.filter_cons, h, decide_false, Bool.false_eq_true, if_false, Bool.not_false, if_true, List.length_cons] at ih ⊢
      omega
theorem cutB_iff {b : Tx} {w : Way} : cutB b w = true ↔ commonL b w.1 = [] ∧ commonL b w.2 ≠ [] ∧ commonL b w.2 ≠ b := by
  unfold cutB
  simp
theorem Part.split {R : Tx} {b : Tx} {P : List Tx} {w : Way} (a : Part R (b :: P)) (hc : cutB b w = true) : Part R (commonL b w.2 :: withoutL b w.2 :: P) := by
  obtain ⟨h1, h2, h3⟩ := cutB_iff.mp hc
  have sb := a.sub b List.mem_cons_self
  have dp := List.pairwise_cons.mp a.dis
  refine ⟨fun x hx => ?_, fun x hx => ?_, fun c hc => ?_, ?_, ?_⟩
  · simp only [List.mem_cons] at hx
    rcases hx with rfl | rfl | hx
    · exact (List.filter_sublist).trans sb
    · exact (List.filter_sublist).trans sb
    · exact a.sub x (List.mem_cons_of_mem _ hx)
  · simp only [List.mem_cons] at hx
    rcases hx with rfl | rfl | hx
    · exact h2
    · intro e
      apply h3
      rw [common_all]
      intro c hcb
      cases Classical.em (c ∈ w.2) with
      | inl h => exact h
      | inr h =>
        have : c ∈ withoutL b w.2 := mem_withoutL.mpr ⟨hcb, h⟩
        rw [e] at this
        cases this
    · exact a.ne x (List.mem_cons_of_mem _ hx)
  · obtain ⟨x, hx, hcx⟩ := a.all c hc
    rcases List.mem_cons.mp hx with rfl | hx
    · by_cases h : c ∈ w.2
      · exact ⟨_, List.mem_cons_self, mem_commonL.mpr ⟨hcx, h⟩⟩
      · exact ⟨_, List.mem_cons_of_mem _ List.mem_cons_self, mem_withoutL.mpr ⟨hcx, h⟩⟩
    · exact ⟨x, List.mem_cons_of_mem _ (List.mem_cons_of_mem _ hx), hcx⟩
  · refine List.pairwise_cons.mpr ⟨fun y hy c hc => ?_, List.pairwise_cons.mpr ⟨fun y hy c hc => ?_, dp.2⟩⟩
    · rcases List.mem_cons.mp hy with rfl | hy
      · exact fun hm => (mem_withoutL.mp hm).2 (mem_commonL.mp hc).2
      · exact dp.1 y hy c (mem_commonL.mp hc).1
    · exact dp.1 y hy c (mem_withoutL.mp hc).1
  · have h := a.sum
    have hl := len_split b w.2
    simp only [List.map_cons, List.sum_cons] at h ⊢
    omega
/-- one cut -/
def Step (w : Way) (P P' : List Tx) : Prop := ∃ b P0, P.Perm (b :: P0) ∧ P'.Perm (commonL b w.2 :: withoutL b w.2 :: P0) ∧ cutB b w = true
theorem Step.part {R : Tx} {P P' : List Tx} {w : Way} (s : Step w P P') (a : Part R P) : Part R P' := by
  obtain ⟨b, P0, h1, h2, hc⟩ := s
  exact ((a.perm h1).split hc).perm h2.symm
theorem Step.len {P P' : List Tx} {w : Way} (s : Step w P P') : P'.length = P.length + 1 := by
  obtain ⟨b, P0, h1, h2, hc⟩ := s
  rw [h2.length_eq, h1.length_eq]
  simp
def Stable (ws : List Way) (P : List Tx) : Prop := ∀ w ∈ ws, ∀ b ∈ P, cutB b w = false
def Coarser (P Q : List Tx) : Prop := ∀ q ∈ Q, ∃ b ∈ P, ∀ c ∈ q, c ∈ b
theorem Step.coarser {P P' Q : List Tx} {ws : List Way} {w : Way} (s : Step w P P') (hw : w ∈ ws) (hs : Stable ws Q) (h : Coarser P Q) : Coarser P' Q := by
  obtain ⟨b, P0, h1, h2, hc⟩ := s
  obtain ⟨c1, _, _⟩ := cutB_iff.mp hc
  intro q hq
  obtain ⟨x, hx, hsub⟩ := h q hq
  rcases List.mem_cons.mp (h1.mem_iff.mp hx) with rfl | hx
  · have hq' := hs w hw q hq
    have n1 : commonL q w.1 = [] := common_nil.mpr fun c hc' => common_nil.mp c1 c (hsub c hc')
    by_cases n2 : commonL q w.2 = []
    · refine ⟨withoutL x w.2, h2.mem_iff.mpr (List.mem_cons_of_mem _ List.mem_cons_self), fun c hc' => mem_withoutL.mpr ⟨hsub c hc', common_nil.mp n2 c hc'⟩⟩
    · have n3 : commonL q w.2 = q := by
        cases Classical.em (commonL q w.2 = q) with
        | inl h => exact h
        | inr h =>
          have : cutB q w = true := cutB_iff.mpr ⟨n1, n2, h⟩
          rw [this] at hq'
          cases hq'
      exact ⟨commonL x w.2, h2.mem_iff.mpr List.mem_cons_self, fun c hc' => mem_commonL.mpr ⟨hsub c hc', common_all.mp n3 c hc'⟩⟩
  · exact ⟨x, h2.mem_iff.mpr (List.mem_cons_of_mem _ (List.mem_cons_of_mem _ hx)), hsub⟩
theorem Part.few {R : Tx} {P : List Tx} (a : Part R P) : P.length ≤ R.length := by
  rw [← a.sum]
  have h := a.ne
  clear a
  induction P with
  | nil => simp
  | cons b P ih =>
    have := ih fun x hx => h x (List.mem_cons_of_mem _ hx)
    have := List.length_pos_iff.mpr (h b List.mem_cons_self)
    simp only [List.map_cons, List.sum_cons, List.length_cons]
    omega
theorem Part.nodup {R : Tx} {P : List Tx} (a : Part R P) : P.Nodup := by
  have h := a.ne
  have d := a.dis
  clear a
  induction P with
  | nil => exact List.nodup_nil
  | cons b P ih =>
    have dp := List.pairwise_cons.mp d
    refine List.nodup_cons.mpr ⟨fun hm => ?_, ih (fun x hx => h x (List.mem_cons_of_mem _ hx)) dp.2⟩
    obtain ⟨c, l, e⟩ := List.exists_cons_of_ne_nil (h b List.mem_cons_self)
    exact dp.1 b hm c (by rw [e]; simp) (by rw [e]; simp)
theorem pair_mem {P : List Tx} (d : P.Pairwise fun a b => ∀ c, c ∈ a → c ∉ b) {a b : Tx} (ha : a ∈ P) (hb : b ∈ P) {c : Nat} (h1 : c ∈ a) (h2 : c ∈ b) : a = b := by
  induction P with
  | nil => cases ha
  | cons x P ih =>
    have dp := List.pairwise_cons.mp d
    rcases List.mem_cons.mp ha with e1 | ha
    · rcases List.mem_cons.mp hb with e2 | hb
      · rw [e1, e2]
      · rw [e1] at h1; exact absurd h2 (dp.1 b hb c h1)
    · rcases List.mem_cons.mp hb with e2 | hb
      · rw [e2] at h2; exact absurd h1 (dp.1 a ha c h2)
      · exact ih dp.2 ha hb
theorem same_half {R : Tx} {P Q : List Tx} (hR : Ris R) (a : Part R P) (b : Part R Q) (h1 : Coarser P Q) (h2 : Coarser Q P) : ∀ x ∈ P, x ∈ Q := fun x hx => by
  obtain ⟨q, hq, s1⟩ := h2 x hx
  obtain ⟨y, hy, s2⟩ := h1 q hq
  obtain ⟨c, l, e⟩ := List.exists_cons_of_ne_nil (a.ne x hx)
  have hc : c ∈ x := by rw [e]; simp
  have exy := pair_mem a.dis hx hy hc (s2 c (s1 c hc))
  subst exy
  have : x = q := ris_ext (hR.sublist (a.sub x hx)) (hR.sublist (b.sub q hq)) fun c => ⟨s1 c, s2 c⟩
  rw [this]
  exact hq
theorem same_perm {R : Tx} {P Q : List Tx} (hR : Ris R) (a : Part R P) (b : Part R Q) (h1 : Coarser P Q) (h2 : Coarser Q P) : P.Perm Q :=
  (List.perm_ext_iff_of_nodup a.nodup b.nodup).mpr fun x => ⟨same_half hR a b h1 h2 x, same_half hR b a h2 h1 x⟩
/-- reached from the one block by cuts -/
inductive Run (ws : List Way) (R : Tx) : List Tx → Prop
  | start : Run ws R [R]
  | step {P P' : List Tx} {w : Way} : Run ws R P → w ∈ ws → Step w P P' → Run ws R P'
theorem part_start {R : Tx} (h : R ≠ []) : Part R [R] := ⟨fun b hb => by rw [List.mem_singleton.mp hb]; exact List.Sublist.refl _, fun b hb => by rw [List.mem_singleton.mp hb]; exact h, fun c hc => ⟨R, by simp, hc⟩, by simp, by simp⟩
theorem Run.part {ws : List Way} {R : Tx} {P : List Tx} (hR : R ≠ []) (r : Run ws R P) : Part R P := by
  induction r with
  | start => exact part_start hR
  | step _ _ s ih => exact s.part ih
theorem Run.coarser {ws : List Way} {R : Tx} {P Q : List Tx} (r : Run ws R P) (hs : Stable ws Q) (b : Part R Q) : Coarser P Q := by
  induction r with
  | start => exact fun q hq => ⟨R, by simp, fun c hc => (b.sub q hq).subset hc⟩
  | step _ hw s ih => exact s.coarser hw hs ih
theorem runs_alike {ws : List Way} {R : Tx} {P Q : List Tx} (hR : Ris R) (h0 : R ≠ []) (a : Run ws R P) (b : Run ws R Q) (sp : Stable ws P) (sq : Stable ws Q) : P.Perm Q :=
  same_perm hR (a.part h0) (b.part h0) (a.coarser sq (b.part h0)) (b.coarser sp (a.part h0))
end Mi
end
section
/-! Loops that end at the first hit; while loops; ways and cuts as the program and the laws find them. -/
namespace Mi
open PySem L2 Dn
theorem forG_first {α : Type} {b : Bd} {body : GS} (I : Dn.Env → Prop) (f : α → Option Dt) (v : α → Dt) {w : Ds} (xs : List α)
    (h : ∀ x ∈ xs, ∀ env, I env → ∃ e1, b (v x) env = some e1 ∧ match f x with
      | some d => body e1 w = .ret d w
      | none => ∃ e2, body e1 w = .nx e2 w ∧ I e2) :
    ∀ {env : Dn.Env}, I env → match xs.findSome? f with
      | some d => forG b body (xs.map v) env w = .ret d w
      | none => ∃ e2, forG b body (xs.map v) env w = .nx e2 w ∧ I e2 := by
  induction xs with
  | nil => exact fun {env} hI => ⟨env, rfl, hI⟩
  | cons x xs ih =>
    intro env hI
    obtain ⟨e1, hb, hx⟩ := h x List.mem_cons_self env hI
    rw [List.findSome?_cons, List.map_cons]
    cases e : f x with
    | some d =>
      rw [e] at hx
      simp only
      unfold forG
      rw [hb]
      simp only
      rw [hx]
    | none =>
      rw [e] at hx
      obtain ⟨e2, hx, hI2⟩ := hx
      have := ih (fun y hy => h y (List.mem_cons_of_mem _ hy)) hI2
      simp only
      unfold forG
      rw [hb]
      simp only
      rw [hx]
      exact this
theorem while_run {c : GT} {body : GS} {w : Ds} (I : Nat → Dn.Env → Prop) (Fin : Dn.Env → Prop)
    (h : ∀ m env, I m env → (c env w = .ok false w ∧ Fin env) ∨ (c env w = .ok true w ∧ ∃ e2, body env w = .nx e2 w ∧ ∃ m', m' < m ∧ I m' e2)) :
    ∀ (n m : Nat) (env : Dn.Env), m < n → I m env → ∃ e, whileG c body n env w = .nx e w ∧ Fin e := by
  intro n
  induction n with
  | zero => exact fun m env hl => absurd hl (Nat.not_lt_zero _)
  | succ n ih =>
    intro m env hl hI
    rcases h m env hI with ⟨h1, h2⟩ | ⟨h1, e2, h2, m', h3, h4⟩
    · refine ⟨env, ?_, h2⟩
      unfold whileG
      rw [h1]
    · obtain ⟨e, he, hf⟩ := ih m' e2 (by omega) h4
      refine ⟨e, ?_, hf⟩
      unfold whileG
      rw [h1]
      simp only
      rw [h2]
      exact he
theorem sWhile_ok {c : GT} {body : GS} {env : Dn.Env} {w : Ds} {o : OutS} (h : whileG c body turnsMost env w = o) : sWhile c body env w = o := h
/-! ### ways -/
def wayD (w : Way) : Dt := .tup [T w.1, T w.2]
def waysOf (s : Say) : List Way := if s.w = tellsT then s.r.map fun c => (s.l, [c]) else [(s.l, s.r)]
def waysL (ss : List Say) : List Way := (ss.map waysOf).flatten
theorem mem_waysL {ss : List Say} {w : Way} : w ∈ waysL ss ↔ ∃ s ∈ ss, w ∈ waysOf s := by
  unfold waysL
  rw [List.mem_flatten]
  constructor
  · rintro ⟨l, hl, hw⟩
    obtain ⟨s, hs, rfl⟩ := List.mem_map.mp hl
    exact ⟨s, hs, hw⟩
  · rintro ⟨s, hs, hw⟩
    exact ⟨waysOf s, List.mem_map.mpr ⟨s, hs, rfl⟩, hw⟩
theorem waysOf_len {s : Say} (h : s.Ok) : (waysOf s).length ≤ 1000 := by
  unfold waysOf
  split
  · rw [List.length_map]; exact h.lr
  · simp
theorem waysL_cons (s : Say) (ss : List Say) : waysL (s :: ss) = waysOf s ++ waysL ss := rfl
theorem waysL_len : ∀ {ss : List Say}, (∀ s ∈ ss, s.Ok) → (waysL ss).length ≤ 1000 * ss.length
  | [], _ => by simp [waysL]
  | s :: ss, h => by
    have h1 := waysOf_len (h s List.mem_cons_self)
    have h2 := waysL_len fun x hx => h x (List.mem_cons_of_mem _ hx)
    rw [waysL_cons, List.length_append, List.length_cons]
    omega
theorem m_cutters_eq {h : Tx} {ss : List Say} {w : Ds} (ok : ∀ s ∈ ss, s.Ok) (few : ss.length ≤ 1000) : m_cutters [bookD h ss] w = .own (.lst ((waysL ss).map wayD)) w := by
  have key : ∀ (xs : List Say) (acc : List Way) (k2 k3 k4 k5 : Sl), (∀ s ∈ xs, s.Ok) → acc.length + 1000 * xs.length ≤ 1000000 → ∃ k2' k3' k4' k5', forG (bTup (bCons (bName 2) (bCons (bName 3) (bCons (bName 4) bNil)))) b_cutters_0 (xs.map Say.d) [.dat (bookD h ss), .own (.lst (acc.map wayD)), k2, k3, k4, k5] w = .nx [.dat (bookD h ss), .own (.lst ((acc ++ waysL xs).map wayD)), k2', k3', k4', k5'] w := by
    intro xs
    induction xs with
    | nil => exact fun acc k2 k3 k4 k5 _ _ => ⟨k2, k3, k4, k5, by simp [waysL, forG]⟩
    | cons s xs ih =>
      intro acc k2 k3 k4 k5 hk hl
      rw [List.length_cons] at hl
      have so := hk s List.mem_cons_self
      have wl := waysOf_len so
      let E : Dn.Env := [.dat (bookD h ss), .own (.lst (acc.map wayD)), .dat (T s.w), .dat (T s.l), .dat (T s.r), k5]
      rw [List.map_cons]
      unfold forG
      rw [show bTup (bCons (bName 2) (bCons (bName 3) (bCons (bName 4) bNil))) s.d [.dat (bookD h ss), .own (.lst (acc.map wayD)), k2, k3, k4, k5] = some E from rfl]
      simp only
      have t : (gTst (gBin oEq (gVar 2) (gOk (.str "tells")))) E w = .ok (decide (s.w = tellsT)) w := gTst_ok (gBin_ok rfl rfl (oEq_tells so.aw))
      have body : b_cutters_0 E w = .nx [.dat (bookD h ss), .own (.lst ((acc ++ waysOf s).map wayD)), .dat (T s.w), .dat (T s.l), .dat (T s.r), k5] w := by
        unfold waysOf at wl ⊢
        by_cases hw : s.w = tellsT
        · rw [if_pos hw] at wl ⊢
          have e := gLc_map (vs := [5]) (gi := gIt srcD (gVar 4)) (b := bName 5) (gt := gYes) (ge := gTup (gCons (gVar 3) (gCons (gVar 5) gNil))) (env := E) (w := w) (w1 := w) s.r (fun c => T [c]) (fun _ => true) (fun c => wayD (s.l, [c]))
            (gIt_ok rfl (srcD_T s.r)) (fun c hc => ⟨(hide [5] E).set 5 (.dat (T [c])), by simp [E], rfl, fun _ => gTup_ok (ga2 (d := T s.l) (d' := T [c]) (w1 := w) (w2 := w) (by simp [E]) (by simp [E])) (by simp)⟩) (by rw [sz_line]; have := so.lr; omega)
          rw [filter_tt] at e
          refine sIf_t (w1 := w) (t.trans (by simp [hw])) ?_
          rw [sLm_app, show E[1]? = some (.own (.lst (acc.map wayD))) from rfl]
          simp only [ga1 (gFrz_lst e), fExt]
          rw [if_pos (by rw [List.length_map] at wl; simp [sz_line]; omega)]
          show OutS.nx _ w = _
          simp [E, List.map_map, Function.comp_def]
        · rw [if_neg hw] at wl ⊢
          refine sIf_f (w1 := w) (t.trans (by simp [hw])) ?_
          have e := gTup_ok (g := gCons (gVar 3) (gCons (gVar 4) gNil)) (env := E) (w := w) (w1 := w) (ds := [T s.l, T s.r]) (ga2 rfl rfl) (by simp)
          have hk' : (acc.map wayD).length < sizeLine := by rw [sz_line, List.length_map]; omega
          rw [sLm_app, show E[1]? = some (.own (.lst (acc.map wayD))) from rfl]
          simp only [ga1 e, fApp, if_pos hk']
          show OutS.nx _ w = _
          simp [E, wayD]
      rw [body]
      simp only
      obtain ⟨a2, a3, a4, a5, e⟩ := ih (acc ++ waysOf s) (.dat (T s.w)) (.dat (T s.l)) (.dat (T s.r)) k5 (fun x hx => hk x (List.mem_cons_of_mem _ hx)) (by rw [List.length_append]; omega)
      exact ⟨a2, a3, a4, a5, by rw [e, waysL_cons, List.append_assoc]⟩
  obtain ⟨a2, a3, a4, a5, e⟩ := key ss [] .un .un .un .un ok (by simp; omega)
  rw [List.nil_append] at e
  exact runM_rtf (sSeq_nx (sSetF_ok (d := .lst []) (w1 := w) rfl) (sSeq_nx (sFor_ok (gIt_ok (d := .lst (ss.map Say.d)) (gBind1_ok (a := bookD h ss) rfl rfl) rfl) e) rfl))
/-! ### the first cut -/
/-- short texts -/
def Sh (x : Tx) : Prop := Asc x ∧ x.length ≤ 1000
theorem Sh.common {a b : Tx} (h : Sh a) : Sh (commonL a b) := ⟨asc_sub h.1 List.filter_sublist, Nat.le_trans List.filter_sublist.length_le h.2⟩
theorem Sh.without {a b : Tx} (h : Sh a) : Sh (withoutL a b) := ⟨asc_sub h.1 List.filter_sublist, Nat.le_trans List.filter_sublist.length_le h.2⟩
def ShW (ws : List Way) : Prop := ∀ w ∈ ws, Sh w.1 ∧ Sh w.2
theorem waysOf_sh {s : Say} (h : s.Ok) : ShW (waysOf s) := fun w hw => by
  unfold waysOf at hw
  split at hw
  · obtain ⟨c, hc, rfl⟩ := List.mem_map.mp hw
    exact ⟨⟨h.al, h.ll⟩, fun d hd => h.ar d (by rw [List.mem_singleton.mp hd]; exact hc), by simp⟩
  · rw [List.mem_singleton.mp hw]
    exact ⟨⟨h.al, h.ll⟩, ⟨h.ar, h.lr⟩⟩
theorem waysL_sh {ss : List Say} (h : ∀ s ∈ ss, s.Ok) : ShW (waysL ss) := fun w hw => by
  obtain ⟨s, hs, hw⟩ := mem_waysL.mp hw
  exact waysOf_sh (h s hs) w hw
def firstAt (w : Way) (P : List Tx) : Option (Nat × Way) := P.zipIdx.findSome? fun p => if cutB p.1 w then some (p.2, w) else none
def cutOnce (ws : List Way) (P : List Tx) : Option (Nat × Way) := ws.findSome? fun w => firstAt w P
def onceD : Option (Nat × Way) → Dt
  | some (i, w) => .tup [.int (i : Int), T w.1, T w.2]
  | none => .non
theorem enumD_T : ∀ (P : List Tx) (k : Nat), enumD (k : Int) (P.map T) = (P.zipIdx k).map fun p => .tup [.int (p.2 : Int), T p.1]
  | [], _ => rfl
  | b :: P, k => by
    have := enumD_T P (k + 1)
    simp only [List.map_cons, List.zipIdx_cons, enumD]
    rw [← this]
    rfl
theorem findSome_map {α β γ : Type} (f : α → Option β) (g : β → γ) : ∀ xs : List α, (xs.findSome? fun x => (f x).map g) = (xs.findSome? f).map g
  | [] => rfl
  | x :: xs => by
    rw [List.findSome?_cons, List.findSome?_cons]
    cases f x with
    | none => exact findSome_map f g xs
    | some y => rfl
theorem oNotInT_two {x b : Tx} : oNotInT (T x) (.tup [.str "", T b]) = some (.bl (!decide (x = []) && !decide (x = b))) := by
  have e : oNotInT (T x) (.tup [.str "", T b]) = (strsOf [.str "", T b]).map fun ys => Dt.bl (!ys.any fun y => decide (y = sx x)) := rfl
  have e2 : strsOf [.str "", T b] = some [sx [], sx b] := by
    show some [Str.ofString "", sx b] = _
    rw [str_empty]
  rw [e, e2]
  simp only [Option.map_some, List.any_cons, List.any_nil, Bool.or_false, sx_eq]
  congr 2
  by_cases h1 : x = []
  · subst h1; simp
  · by_cases h2 : x = b
    · subst h2; simp
    · simp [h1, h2, Ne.symm h1, Ne.symm h2]
theorem oInT_two {x b : Tx} : oInT (T x) (.tup [.str "", T b]) = some (.bl (decide (x = []) || decide (x = b))) := by
  have e : oInT (T x) (.tup [.str "", T b]) = (strsOf [.str "", T b]).map fun ys => Dt.bl (ys.any fun y => decide (y = sx x)) := rfl
  have e2 : strsOf [.str "", T b] = some [sx [], sx b] := by
    show some [Str.ofString "", sx b] = _
    rw [str_empty]
  rw [e, e2]
  simp only [Option.map_some, List.any_cons, List.any_nil, Bool.or_false, sx_eq]
  congr 2
  by_cases h1 : x = []
  · subst h1; simp
  · by_cases h2 : x = b
    · subst h2; simp
    · simp [h1, h2, Ne.symm h1, Ne.symm h2]
theorem m_cut_once_eq {P : List Tx} {ws : List Way} {w : Ds} (hP : ∀ b ∈ P, Sh b) (hW : ShW ws) (few : P.length ≤ 1000) : m_cut_once [.lst (P.map T), .lst (ws.map wayD)] w = .dat (onceD (cutOnce ws P)) w := by
  have inner : ∀ (u : Way), Sh u.1 → Sh u.2 → ∀ (env : Dn.Env), (∃ k4 k5 k6, env = [.dat (.lst (P.map T)), .dat (.lst (ws.map wayD)), .dat (T u.1), .dat (T u.2), k4, k5, k6]) →
      match ((P.zipIdx).findSome? fun p => (if cutB p.1 u then some (p.2, u) else none).map fun z => onceD (some z)) with
      | some d => b_cut_once_1 env w = .ret d w
      | none => ∃ e2, b_cut_once_1 env w = .nx e2 w ∧ ∃ k4 k5 k6, e2 = [.dat (.lst (P.map T)), .dat (.lst (ws.map wayD)), .dat (T u.1), .dat (T u.2), k4, k5, k6] := fun u h1 h2 env hI => by
    have hen : gIts (oEnum 0) (gCons (gVar 0) gNil) env w = .ok (P.zipIdx.map fun p => .tup [.int (p.2 : Int), T p.1]) w := by
      obtain ⟨k4, k5, k6, rfl⟩ := hI
      refine gIts_ok (ga1 (d := .lst (P.map T)) rfl) ?_
      unfold oEnum
      show some (enumD 0 (P.map T)) = _
      rw [show (0 : Int) = ((0 : Nat) : Int) from rfl, enumD_T P 0]
    have := forG_first (b := bTup (bCons (bName 4) (bCons (bName 5) bNil))) (body := b_cut_once_0) (fun env => ∃ k4 k5 k6, env = [.dat (.lst (P.map T)), .dat (.lst (ws.map wayD)), .dat (T u.1), .dat (T u.2), k4, k5, k6])
      (fun p : Tx × Nat => (if cutB p.1 u then some (p.2, u) else none).map fun z => onceD (some z)) (fun p => .tup [.int (p.2 : Int), T p.1]) (w := w) P.zipIdx (fun p hp env hI => by
        obtain ⟨k4, k5, k6, rfl⟩ := hI
        obtain ⟨b, i⟩ := p
        have hb : b ∈ P := (List.mem_zipIdx' hp).2 ▸ List.getElem_mem _
        have sb := hP b hb
        have sl : (commonL b u.1).length ≤ 1000 := sb.common.2
        refine ⟨[.dat (.lst (P.map T)), .dat (.lst (ws.map wayD)), .dat (T u.1), .dat (T u.2), .dat (.int (i : Int)), .dat (T b), k6], rfl, ?_⟩
        let E : Dn.Env := [.dat (.lst (P.map T)), .dat (.lst (ws.map wayD)), .dat (T u.1), .dat (T u.2), .dat (.int (i : Int)), .dat (T b), .dat (T (commonL b u.2))]
        have s6 : sSet 6 (gCall 2 [] m_common (gCons (gVar 5) (gCons (gVar 3) gNil))) [.dat (.lst (P.map T)), .dat (.lst (ws.map wayD)), .dat (T u.1), .dat (T u.2), .dat (.int (i : Int)), .dat (T b), k6] w = .nx E w := sSet_ok (gCall_dat (ga2 rfl rfl) (m_common_eq (by have := sb.2; omega)))
        have t1 : (gTst (gBin oEq (gCall 2 [] m_common (gCons (gVar 5) (gCons (gVar 2) gNil))) (gOk (.str "")))) E w = .ok (decide (commonL b u.1 = [])) w := gTst_ok (gBin_ok (gCall_dat (ga2 rfl rfl) (m_common_eq (by have := sb.2; omega))) rfl (oEq_nil sb.common.1))
        have t2 : (gTst (gBin oNotInT (gVar 6) (gTup (gCons (gOk (.str "")) (gCons (gVar 5) gNil))))) E w = .ok (!decide (commonL b u.2 = []) && !decide (commonL b u.2 = b)) w := gTst_ok (gBin_ok (a := T (commonL b u.2)) rfl (gTup_ok (ga2 rfl rfl) (by simp)) oNotInT_two)
        have t : (gAnd (gTst (gBin oEq (gCall 2 [] m_common (gCons (gVar 5) (gCons (gVar 2) gNil))) (gOk (.str "")))) (gTst (gBin oNotInT (gVar 6) (gTup (gCons (gOk (.str "")) (gCons (gVar 5) gNil)))))) E w = .ok (cutB b u) w := by
          unfold cutB
          cases c : decide (commonL b u.1 = []) with
          | true => exact gAnd_t (t1.trans (by rw [c])) (t2.trans (by rw [Bool.true_and]))
          | false => exact gAnd_f (t1.trans (by rw [c]))
        cases c : cutB b u with
        | true =>
          show b_cut_once_0 _ w = _
          exact sSeq_nx s6 (sIf_t (w1 := w) (t.trans (by rw [c])) (sRet_ok (gTup_ok (gaC rfl (gaC rfl (gaC rfl gaN))) (by simp))))
        | false => exact ⟨E, sSeq_nx s6 (sIf_f (w1 := w) (t.trans (by rw [c])) rfl), _, _, _, rfl⟩) hI
    cases c : P.zipIdx.findSome? fun p : Tx × Nat => (if cutB p.1 u then some (p.2, u) else none).map fun z => onceD (some z) with
    | some d =>
      rw [c] at this
      exact sFor_ok hen this
    | none =>
      rw [c] at this
      obtain ⟨e2, h3, h4⟩ := this
      exact ⟨e2, sFor_ok hen h3, h4⟩
  have outer := forG_first (b := bTup (bCons (bName 2) (bCons (bName 3) bNil))) (body := b_cut_once_1) (fun env => ∃ k2 k3 k4 k5 k6, env = [.dat (.lst (P.map T)), .dat (.lst (ws.map wayD)), k2, k3, k4, k5, k6])
    (fun u : Way => (firstAt u P).map fun z => onceD (some z)) wayD (w := w) ws (fun u hu env hI => by
      obtain ⟨k2, k3, k4, k5, k6, rfl⟩ := hI
      refine ⟨[.dat (.lst (P.map T)), .dat (.lst (ws.map wayD)), .dat (T u.1), .dat (T u.2), k4, k5, k6], rfl, ?_⟩
      have := inner u (hW u hu).1 (hW u hu).2 _ ⟨k4, k5, k6, rfl⟩
      rw [findSome_map] at this
      show (match (firstAt u P).map fun z => onceD (some z) with
        | some d => _
        | none => _)
      unfold firstAt
      cases c : P.zipIdx.findSome? fun p : Tx × Nat => if cutB p.1 u then some (p.2, u) else none with
      | some z =>
        rw [c] at this
        exact this
      | none =>
        rw [c] at this
        obtain ⟨e2, h3, k4, k5, k6, h4⟩ := this
        exact ⟨e2, h3, _, _, _, _, _, h4⟩) (env := [.dat (.lst (P.map T)), .dat (.lst (ws.map wayD)), .un, .un, .un, .un, .un]) ⟨_, _, _, _, _, rfl⟩
  rw [findSome_map] at outer
  unfold cutOnce
  cases c : ws.findSome? fun u => firstAt u P with
  | some z =>
    rw [c] at outer
    exact runM_ret (sSeq_ret (sFor_ok (gIt_ok (d := .lst (ws.map wayD)) rfl rfl) outer))
  | none =>
    rw [c] at outer
    obtain ⟨e2, h3, _⟩ := outer
    exact runM_ret (sSeq_nx (sFor_ok (gIt_ok (d := .lst (ws.map wayD)) rfl rfl) h3) rfl)
end Mi
end
section
/-! The law's cuts; blocks on both sides; sorted texts. -/
namespace Mi
open PySem L2 Dn
open PyProof.Rows
open PySem.W (AllAlike Sortable dataLe alike alikeAll)
/-! ### sorted texts -/
def sortT (P : List Tx) : List Tx := P.mergeSort (dataLe false fun x => encD (T x))
theorem srts_texts {P : List Tx} (h : P.length ≤ 10000) : Srts (P.map T) where
  py := fun d hd => by
    obtain ⟨s, _, rfl⟩ := List.mem_map.mp hd
    exact ⟨_, rfl⟩
  al := by
    rw [List.map_map]
    exact AllAlike.of fun a b => by
      show alike (encD (T a)) (encD (T b)) = true
      rfl
  st := .inr fun d hd => by
    rw [List.map_map] at hd
    obtain ⟨s, _, rfl⟩ := List.mem_map.mp hd
    exact ⟨fun h => (by cases h), fun xs h => (by cases h)⟩
  dp := fun d hd => by
    obtain ⟨s, _, rfl⟩ := List.mem_map.mp hd
    show (PyData.str (sx s)).depth ≤ 64
    simp [PyData.depth]
  ln := by rw [List.length_map, sz_line]; omega
theorem oSort_texts {P : List Tx} (h : P.length ≤ 10000) : oSort [.lst (P.map T)] = some (.lst ((sortT P).map T)) := by
  unfold oSort
  simp only [if_pos (srts_texts h)]
  congr 2
  unfold srtD sortT
  symm
  exact List.map_mergeSort (f := T) fun a _ b _ => rfl
theorem mem_sortT {xs : List Tx} {s : Tx} : s ∈ sortT xs ↔ s ∈ xs := (List.mergeSort_perm xs _).mem_iff
theorem sortT_len (xs : List Tx) : (sortT xs).length = xs.length := (List.mergeSort_perm xs _).length_eq
/-! ### the law's first cut -/
def firstB (P : List Tx) (w : Way) : Option (Tx × Way) := P.findSome? fun b => if cutB b w then some (b, w) else none
def cutPair (ss : List Say) (P : List Tx) : Option (Tx × Way) := (waysL ss).findSome? (firstB P)
def pairD2 : Option (Tx × Way) → Dt
  | some (b, w) => .tup [T b, T (commonL b w.2)]
  | none => .non
theorem findSome_ways {β : Type} (f : Way → Option β) : ∀ ss : List Say, (waysL ss).findSome? f = ss.findSome? fun s => (waysOf s).findSome? f
  | [] => rfl
  | s :: ss => by
    rw [waysL_cons, List.findSome?_append, List.findSome?_cons, findSome_ways f ss]
    cases (waysOf s).findSome? f <;> rfl
theorem m__law_cut_pair_eq {h : Tx} {ss : List Say} {P : List Tx} {w : Ds} (hP : ∀ b ∈ P, Sh b) (ok : ∀ s ∈ ss, s.Ok) : m__law_cut_pair [T h, LS ss, .lst (P.map T)] w = .dat (pairD2 (cutPair ss P)) w := by
  let F (k3 k4 k5 k6 k7 k8 : Sl) : Dn.Env := [.dat (T h), .dat (LS ss), .dat (.lst (P.map T)), k3, k4, k5, k6, k7, k8]
  -- over blocks
  have l0 : ∀ (k3 k5 : Sl) (u : Way), ∀ env : Dn.Env, (∃ k7 k8, env = F k3 (.dat (T u.1)) k5 (.dat (T u.2)) k7 k8) → match (firstB P u).map fun z => pairD2 (some z) with
      | some d => b__law_cut_pair_1 env w = .ret d w
      | none => ∃ e2, b__law_cut_pair_1 env w = .nx e2 w ∧ ∃ k7 k8, e2 = F k3 (.dat (T u.1)) k5 (.dat (T u.2)) k7 k8 := fun k3 k5 u env hI => by
    have := forG_first (b := bName 7) (body := b__law_cut_pair_0) (fun env => ∃ k7 k8, env = F k3 (.dat (T u.1)) k5 (.dat (T u.2)) k7 k8)
      (fun b : Tx => (if cutB b u then some (b, u) else none).map fun z => pairD2 (some z)) T (w := w) P (fun b hb env hI => by
        obtain ⟨k7, k8, rfl⟩ := hI
        have sb := hP b hb
        refine ⟨F k3 (.dat (T u.1)) k5 (.dat (T u.2)) (.dat (T b)) k8, rfl, ?_⟩
        let E : Dn.Env := F k3 (.dat (T u.1)) k5 (.dat (T u.2)) (.dat (T b)) (.dat (T (commonL b u.2)))
        have s8 : sSet 8 (gCall 2 [] m__law_of (gCons (gVar 7) (gCons (gVar 6) gNil))) (F k3 (.dat (T u.1)) k5 (.dat (T u.2)) (.dat (T b)) k8) w = .nx E w := sSet_ok (hi := by show 8 < 9; decide) (gCall_dat (ga2 rfl rfl) (m__law_of_eq (by have := sb.2; omega)))
        have t1 : (gTst (gBin oEq (gCall 2 [] m__law_of (gCons (gVar 7) (gCons (gVar 4) gNil))) (gOk (.str "")))) E w = .ok (decide (commonL b u.1 = [])) w := gTst_ok (gBin_ok (gCall_dat (ga2 rfl rfl) (m__law_of_eq (by have := sb.2; omega))) rfl (oEq_nil sb.common.1))
        have t2 : (gTst (gBin oNe (gVar 8) (gOk (.str "")))) E w = .ok (!decide (commonL b u.2 = [])) w := gTst_ok (gBin_ok rfl rfl (by rw [str_empty]; exact oNe_T sb.common.1 asc_nil))
        have t3 : (gTst (gBin oNe (gVar 8) (gVar 7))) E w = .ok (!decide (commonL b u.2 = b)) w := gTst_ok (gBin_ok rfl rfl (oNe_T sb.common.1 sb.1))
        have t23 : (gAnd (gTst (gBin oNe (gVar 8) (gOk (.str "")))) (gTst (gBin oNe (gVar 8) (gVar 7)))) E w = .ok (!decide (commonL b u.2 = []) && !decide (commonL b u.2 = b)) w := by
          cases c : !decide (commonL b u.2 = []) with
          | true => exact gAnd_t (t2.trans (by rw [c])) (t3.trans (by rw [Bool.true_and]))
          | false => exact gAnd_f (t2.trans (by rw [c]))
        have t : (gAnd (gTst (gBin oEq (gCall 2 [] m__law_of (gCons (gVar 7) (gCons (gVar 4) gNil))) (gOk (.str "")))) (gAnd (gTst (gBin oNe (gVar 8) (gOk (.str "")))) (gTst (gBin oNe (gVar 8) (gVar 7))))) E w = .ok (cutB b u) w := by
          unfold cutB
          cases c : decide (commonL b u.1 = []) with
          | true => exact gAnd_t (t1.trans (by rw [c])) (t23.trans (by rw [Bool.true_and]))
          | false => exact gAnd_f (t1.trans (by rw [c]))
        cases c : cutB b u with
        | true =>
          show b__law_cut_pair_0 _ w = _
          exact sSeq_nx s8 (sIf_t (w1 := w) (t.trans (by rw [c])) (sRet_ok (gTup_ok (ga2 rfl rfl) (by simp))))
        | false => exact ⟨E, sSeq_nx s8 (sIf_f (w1 := w) (t.trans (by rw [c])) rfl), _, _, rfl⟩) hI
    rw [findSome_map] at this
    unfold firstB
    have hi : gIt srcD (gVar 2) env w = .ok (P.map T) w := by
      obtain ⟨k7, k8, rfl⟩ := hI
      exact gIt_ok (d := .lst (P.map T)) rfl rfl
    cases c : P.findSome? fun b : Tx => if cutB b u then some (b, u) else none with
    | some d =>
      rw [c] at this
      exact sFor_ok hi this
    | none =>
      rw [c] at this
      obtain ⟨e2, h3, h4⟩ := this
      exact ⟨e2, sFor_ok hi h3, h4⟩
  -- over a saying's pieces
  have l1 : ∀ (s : Say), s.Ok → ∀ env : Dn.Env, (∃ k6 k7 k8, env = F (.dat (T s.w)) (.dat (T s.l)) (.dat (T s.r)) k6 k7 k8) → match ((waysOf s).findSome? (firstB P)).map fun z => pairD2 (some z) with
      | some d => b__law_cut_pair_2 env w = .ret d w
      | none => ∃ e2, b__law_cut_pair_2 env w = .nx e2 w ∧ ∃ k6 k7 k8, e2 = F (.dat (T s.w)) (.dat (T s.l)) (.dat (T s.r)) k6 k7 k8 := fun s so env hI => by
    have hl : ∀ u ∈ waysOf s, u.1 = s.l := fun u hu => by
      unfold waysOf at hu
      split at hu
      · obtain ⟨c, hc, rfl⟩ := List.mem_map.mp hu; rfl
      · rw [List.mem_singleton.mp hu]
    have := forG_first (b := bName 6) (body := b__law_cut_pair_1) (fun env => ∃ k6 k7 k8, env = F (.dat (T s.w)) (.dat (T s.l)) (.dat (T s.r)) k6 k7 k8)
      (fun u : Way => (firstB P u).map fun z => pairD2 (some z)) (fun u => T u.2) (w := w) (waysOf s) (fun u hu env hI => by
        obtain ⟨k6, k7, k8, rfl⟩ := hI
        refine ⟨F (.dat (T s.w)) (.dat (T s.l)) (.dat (T s.r)) (.dat (T u.2)) k7 k8, rfl, ?_⟩
        have h0 := l0 (.dat (T s.w)) (.dat (T s.r)) u (F (.dat (T s.w)) (.dat (T s.l)) (.dat (T s.r)) (.dat (T u.2)) k7 k8) ⟨k7, k8, by rw [hl u hu]⟩
        cases c : firstB P u with
        | some z => rw [c] at h0; exact h0
        | none =>
          rw [c] at h0
          obtain ⟨e2, h1, k7', k8', h2⟩ := h0
          rw [hl u hu] at h2
          exact ⟨e2, h1, _, _, _, h2⟩) hI
    rw [findSome_map] at this
    have hi : gIt srcD (gIfE (gTst (gBin oEq (gVar 3) (gOk (.str "tells")))) (gFrz (gArgsF oListA (gCons (gVar 5) gNil))) (gFrz (gLst (gCons (gVar 5) gNil)))) env w = .ok ((waysOf s).map fun u => T u.2) w := by
      obtain ⟨k6, k7, k8, rfl⟩ := hI
      have t : (gTst (gBin oEq (gVar 3) (gOk (.str "tells")))) (F (.dat (T s.w)) (.dat (T s.l)) (.dat (T s.r)) k6 k7 k8) w = .ok (decide (s.w = tellsT)) w := gTst_ok (gBin_ok rfl rfl (oEq_tells so.aw))
      unfold waysOf
      by_cases hw : s.w = tellsT
      · rw [if_pos hw, List.map_map]
        refine gIt_ok (d := .lst (s.r.map fun c => T [c])) (gIfE_t (w1 := w) (t.trans (by simp [hw])) (gFrz_lst (gArgsF_ok (ga1 (d := T s.r) rfl) ?_))) rfl
        show (if (sx s.r).cps.size ≤ sizeLine then some (Ow.lst (signD (sx s.r))) else none) = _
        rw [if_pos (by rw [sx_size, sz_line]; have := so.lr; omega), signD_sx]
      · rw [if_neg hw]
        exact gIt_ok (d := .lst [T s.r]) (gIfE_f (w1 := w) (t.trans (by simp [hw])) (gFL (ga1 rfl) (by simp))) rfl
    cases c : (waysOf s).findSome? (firstB P) with
    | some z =>
      rw [c] at this
      exact sFor_ok hi this
    | none =>
      rw [c] at this
      obtain ⟨e2, h3, h4⟩ := this
      exact ⟨e2, sFor_ok hi h3, h4⟩
  have l2 := forG_first (b := bTup (bCons (bName 3) (bCons (bName 4) (bCons (bName 5) bNil)))) (body := b__law_cut_pair_2) (fun env => ∃ k3 k4 k5 k6 k7 k8, env = F k3 k4 k5 k6 k7 k8)
    (fun s : Say => ((waysOf s).findSome? (firstB P)).map fun z => pairD2 (some z)) Say.d (w := w) ss (fun s hs env hI => by
      obtain ⟨k3, k4, k5, k6, k7, k8, rfl⟩ := hI
      refine ⟨F (.dat (T s.w)) (.dat (T s.l)) (.dat (T s.r)) k6 k7 k8, rfl, ?_⟩
      have h1 := l1 s (ok s hs) _ ⟨k6, k7, k8, rfl⟩
      cases c : (waysOf s).findSome? (firstB P) with
      | some z => rw [c] at h1; exact h1
      | none =>
        rw [c] at h1
        obtain ⟨e2, h3, k6', k7', k8', h4⟩ := h1
        exact ⟨e2, h3, _, _, _, _, _, _, h4⟩) (env := F .un .un .un .un .un .un) ⟨_, _, _, _, _, _, rfl⟩
  rw [findSome_map] at l2
  unfold cutPair
  rw [findSome_ways]
  cases c : ss.findSome? fun s => (waysOf s).findSome? (firstB P) with
  | some z =>
    rw [c] at l2
    exact runM_ret (sSeq_ret (sFor_ok (gIt_ok (d := LS ss) rfl rfl) l2))
  | none =>
    rw [c] at l2
    obtain ⟨e2, h3, _⟩ := l2
    exact runM_ret (sSeq_nx (sFor_ok (gIt_ok (d := LS ss) rfl rfl) h3) rfl)
/-! ### what a first cut tells -/
theorem cutPair_some {ss : List Say} {P : List Tx} {b : Tx} {u : Way} (h : cutPair ss P = some (b, u)) : u ∈ waysL ss ∧ b ∈ P ∧ cutB b u = true := by
  unfold cutPair at h
  obtain ⟨u', hu, e⟩ := List.exists_of_findSome?_eq_some h
  unfold firstB at e
  obtain ⟨b', hb, e⟩ := List.exists_of_findSome?_eq_some e
  split at e
  · cases e
    rename_i hc
    exact ⟨hu, hb, hc⟩
  · cases e
theorem cutPair_none {ss : List Say} {P : List Tx} (h : cutPair ss P = none) : Stable (waysL ss) P := fun u hu b hb => by
  unfold cutPair at h
  have := List.findSome?_eq_none_iff.mp h u hu
  unfold firstB at this
  have := List.findSome?_eq_none_iff.mp this b hb
  cases c : cutB b u with
  | false => rfl
  | true => rw [c] at this; cases this
theorem cutOnce_some {ws : List Way} {P : List Tx} {i : Nat} {u : Way} (h : cutOnce ws P = some (i, u)) : u ∈ ws ∧ ∃ b, P[i]? = some b ∧ cutB b u = true := by
  unfold cutOnce at h
  obtain ⟨u', hu, e⟩ := List.exists_of_findSome?_eq_some h
  unfold firstAt at e
  obtain ⟨⟨b, j⟩, hb, e⟩ := List.exists_of_findSome?_eq_some e
  split at e
  · cases e
    rename_i hc
    exact ⟨hu, b, by simpa using List.mem_zipIdx_iff_getElem?.mp hb, hc⟩
  · cases e
theorem cutOnce_none {ws : List Way} {P : List Tx} (h : cutOnce ws P = none) : Stable ws P := fun u hu b hb => by
  unfold cutOnce at h
  have := List.findSome?_eq_none_iff.mp h u hu
  unfold firstAt at this
  obtain ⟨i, hi⟩ := List.getElem?_of_mem hb
  have := List.findSome?_eq_none_iff.mp this (b, i) (List.mem_zipIdx_iff_getElem?.mpr hi)
  cases c : cutB b u with
  | false => rfl
  | true => simp [c] at this
end Mi
end
section
/-! Blocks of a book, the law's blocks. -/
namespace Mi
open PySem L2 Dn
def Fin' (R : Tx) (ws : List Way) (P : List Tx) : Prop := (R = [] ∧ P = []) ∨ (R ≠ [] ∧ Run ws R P ∧ Stable ws P)
theorem Fin'.perm {R : Tx} {ws : List Way} {P Q : List Tx} (hR : Ris R) (a : Fin' R ws P) (b : Fin' R ws Q) : P.Perm Q := by
  rcases a with ⟨a1, a2⟩ | ⟨a1, a2, a3⟩
  · rcases b with ⟨b1, b2⟩ | ⟨b1, b2, b3⟩
    · rw [a2, b2]
    · exact absurd a1 b1
  · rcases b with ⟨b1, b2⟩ | ⟨b1, b2, b3⟩
    · exact absurd b1 a1
    · exact runs_alike hR a1 a2 b2 a3 b3
theorem Fin'.sub {R : Tx} {ws : List Way} {P : List Tx} (a : Fin' R ws P) : ∀ b ∈ P, b.Sublist R ∧ b ≠ [] := fun b hb => by
  rcases a with ⟨a1, a2⟩ | ⟨a1, a2, a3⟩
  · rw [a2] at hb; cases hb
  · exact ⟨(a2.part a1).sub b hb, (a2.part a1).ne b hb⟩
theorem Fin'.few {R : Tx} {ws : List Way} {P : List Tx} (a : Fin' R ws P) : P.length ≤ R.length := by
  rcases a with ⟨a1, a2⟩ | ⟨a1, a2, a3⟩
  · rw [a2]; simp
  · exact (a2.part a1).few
theorem gLend_ok {g : GE} {env : Dn.Env} {w w1 : Ds} {d : Dt} (h : g (lendA env) w = .ok d w1) (hf : flat d = true) : gLend g env w = .ok d w1 := by
  rw [gLend_app, h]
  simp only [hf, if_true]
theorem step_at {P : List Tx} {i : Nat} {b : Tx} {u : Way} (hi : P[i]? = some b) (hc : cutB b u = true) : Step u P (P.take i ++ [commonL b u.2, withoutL b u.2] ++ P.drop (i + 1)) := by
  have hl : i < P.length := by
    cases Nat.decLt i P.length with
    | isTrue h => exact h
    | isFalse h => rw [List.getElem?_eq_none (Nat.le_of_not_lt h)] at hi; cases hi
  have hb : P[i] = b := by rw [List.getElem?_eq_getElem hl] at hi; exact Option.some.inj hi
  refine ⟨b, P.take i ++ P.drop (i + 1), ?_, ?_, hc⟩
  · have e : P = P.take i ++ b :: P.drop (i + 1) := by
      rw [← hb, ← List.drop_eq_getElem_cons hl, List.take_append_drop]
    conv => lhs; rw [e]
    exact List.perm_middle
  · rw [List.append_assoc]
    show (P.take i ++ (commonL b u.2 :: withoutL b u.2 :: P.drop (i + 1))).Perm _
    exact List.perm_middle.trans (List.Perm.cons _ List.perm_middle)
theorem without_common (b x : Tx) : withoutL b (commonL b x) = withoutL b x := by
  unfold withoutL
  refine List.filter_congr fun c hc => ?_
  have : c ∈ commonL b x ↔ c ∈ x := by
    rw [mem_commonL]
    exact ⟨fun h => h.2, fun h => ⟨hc, h⟩⟩
  rw [decide_eq_decide.mpr this]
theorem step_end {P : List Tx} {b : Tx} {u : Way} (hb : b ∈ P) (nd : P.Nodup) (hc : cutB b u = true) : Step u P ((P.filter fun x => !decide (x = b)) ++ [commonL b u.2, withoutL b (commonL b u.2)]) := by
  refine ⟨b, P.filter fun x => !decide (x = b), ?_, ?_, hc⟩
  · have e : P.erase b = P.filter fun x => !decide (x = b) := by
      rw [List.Nodup.erase_eq_filter nd]
      refine List.filter_congr fun x _ => ?_
      by_cases h : x = b <;> simp [h]
    rw [← e]
    exact List.perm_cons_erase hb
  · rw [without_common]
    exact List.perm_append_comm
theorem run_sh {ws : List Way} {R : Tx} {P : List Tx} (h0 : R ≠ []) (r : Run ws R P) (hR : Sh R) : ∀ b ∈ P, Sh b := fun b hb => by
  have := (r.part h0).sub b hb
  exact ⟨asc_sub hR.1 this, Nat.le_trans this.length_le hR.2⟩
theorem hd_sh {h : Tx} (H : Hd h) : Sh h := ⟨H.asc, by have := H.hi; omega⟩
/-! ### the program's blocks -/
theorem m_blocks_of_eq {h l : Tx} {ss : List Say} {w : Ds} (H : Hd h) (ok : ∀ s ∈ ss, s.Ok) (few : ss.length ≤ 100) : ∃ P, Fin' (withoutL h l) (waysL ss) P ∧ m_blocks_of [bookD h ss, T l] w = .own (.lst (P.map T)) w := by
  have hi := H.hi
  have wsh := waysL_sh ok
  have wl := waysL_len ok
  let ws := waysL ss
  let R := withoutL h l
  have hR : Sh R := (hd_sh H).without
  have R6 : R.length ≤ 6 := Nat.le_trans List.filter_sublist.length_le hi
  let E (k2 k3 k4 k5 k6 k7 k8 k9 : Sl) : Dn.Env := [.dat (bookD h ss), .dat (T l), k2, k3, k4, k5, k6, k7, k8, k9]
  have s2 : sSet 2 (gCall 2 [] m_without (gCons (gBind1 (oFld ["Book"] "letters") (gVar 0)) (gCons (gVar 1) gNil))) (E .un .un .un .un .un .un .un .un) w = .nx (E (.dat (T R)) .un .un .un .un .un .un .un) w :=
    sSet_ok (hi := by show 2 < 10; decide) (gCall_dat (ga2 (gBind1_ok (a := bookD h ss) (r := T h) rfl rfl) rfl) (m_without_eq (by omega)))
  have t0 : (gTst (gBin oNe (gVar 2) (gOk (.str "")))) (E (.dat (T R)) .un .un .un .un .un .un .un) w = .ok (!decide (R = [])) w := gTst_ok (gBin_ok rfl rfl (by rw [str_empty]; exact oNe_T hR.1 asc_nil))
  have cut : ∀ {P : List Tx} {k5 k6 k7 k8 k9 : Sl}, (∀ b ∈ P, Sh b) → P.length ≤ 1000 → sSet 5 (gLend (gCall 2 [] m_cut_once (gCons (gVar 3) (gCons (gVar 4) gNil)))) (E (.dat (T R)) (.own (.lst (P.map T))) (.dat (.lst (ws.map wayD))) k5 k6 k7 k8 k9) w = .nx (E (.dat (T R)) (.own (.lst (P.map T))) (.dat (.lst (ws.map wayD))) (.dat (onceD (cutOnce ws P))) k6 k7 k8 k9) w := fun hP hl => by
    refine sSet_ok (hi := by show 5 < 10; decide) (gLend_ok (gCall_dat (ga2 (g := gVar 3) (g' := gVar 4) rfl rfl) (m_cut_once_eq hP wsh hl)) ?_)
    cases cutOnce ws _ with
    | none => rfl
    | some z => obtain ⟨i, u⟩ := z; rfl
  have s4 : ∀ {k3 : Sl}, sSet 4 (gCall 1 [] m_cutters (gCons (gVar 0) gNil)) (E (.dat (T R)) k3 .un .un .un .un .un .un) w = .nx (E (.dat (T R)) k3 (.dat (.lst (ws.map wayD))) .un .un .un .un .un) w := fun {k3} => sSet_ok (hi := by show 4 < 10; decide) (gCall_own (ga1 rfl) (m_cutters_eq ok (by omega)))
  by_cases h0 : R = []
  · refine ⟨[], .inl ⟨h0, rfl⟩, ?_⟩
    have s3 : sSetF 3 (gIfF (gTst (gBin oNe (gVar 2) (gOk (.str "")))) (gLst (gCons (gVar 2) gNil)) (gLst gNil)) (E (.dat (T R)) .un .un .un .un .un .un .un) w = .nx (E (.dat (T R)) (.own (.lst (([] : List Tx).map T))) .un .un .un .un .un .un) w := by
      refine sSetF_ok (d := .lst []) (w1 := w) (hi := by show 3 < 10; decide) ?_
      unfold gIfF
      rw [t0]
      simp [h0]
    have cn : cutOnce ws [] = none := by
      unfold cutOnce
      rw [List.findSome?_eq_none_iff]
      intro u _
      rfl
    have c5 := cut (P := []) (k5 := .un) (k6 := .un) (k7 := .un) (k8 := .un) (k9 := .un) (fun _ h => by cases h) (by simp)
    rw [cn] at c5
    exact runM_rtf (sSeq_nx s2 (sSeq_nx s3 (sSeq_nx s4 (sSeq_nx c5 (sSeq_nx (sWhile_ok rfl) rfl)))))
  · have s3 : sSetF 3 (gIfF (gTst (gBin oNe (gVar 2) (gOk (.str "")))) (gLst (gCons (gVar 2) gNil)) (gLst gNil)) (E (.dat (T R)) .un .un .un .un .un .un .un) w = .nx (E (.dat (T R)) (.own (.lst ([R].map T))) .un .un .un .un .un .un) w := by
      refine sSetF_ok (d := .lst [T R]) (w1 := w) (hi := by show 3 < 10; decide) ?_
      unfold gIfF
      rw [t0]
      simp only [bind_ok, h0, decide_false, Bool.not_false, if_true]
      exact gLst_ok' (ga1 rfl) (by simp)
    obtain ⟨e, he, P, k6, k7, k8, k9, ee, hr, hs⟩ := while_run (c := gTst (gBin oIsNot (gVar 5) (gOk .non))) (body := b_blocks_of_0) (w := w)
      (fun m env => ∃ (P : List Tx) (k6 k7 k8 k9 : Sl), env = E (.dat (T R)) (.own (.lst (P.map T))) (.dat (.lst (ws.map wayD))) (.dat (onceD (cutOnce ws P))) k6 k7 k8 k9 ∧ Run ws R P ∧ m = R.length - P.length)
      (fun env => ∃ (P : List Tx) (k6 k7 k8 k9 : Sl), env = E (.dat (T R)) (.own (.lst (P.map T))) (.dat (.lst (ws.map wayD))) (.dat (onceD (cutOnce ws P))) k6 k7 k8 k9 ∧ Run ws R P ∧ Stable ws P)
      (fun m env hI => by
        obtain ⟨P, k6, k7, k8, k9, rfl, hr, hm⟩ := hI
        have hp := hr.part h0
        have pf := hp.few
        have psh := run_sh h0 hr hR
        cases c : cutOnce ws P with
        | none => exact .inl ⟨rfl, P, k6, k7, k8, k9, by rw [c], hr, cutOnce_none c⟩
        | some z =>
          obtain ⟨i, u⟩ := z
          obtain ⟨hu, b, hb, hc⟩ := cutOnce_some c
          have st := step_at hb hc
          have hr' := Run.step hr hu st
          have pf' := (hr'.part h0).few
          have psh' := run_sh h0 hr' hR
          have ln := st.len
          have hl : i < P.length := by
            cases Nat.decLt i P.length with
            | isTrue h => exact h
            | isFalse h => rw [List.getElem?_eq_none (Nat.le_of_not_lt h)] at hb; cases hb
          have sb := psh b (List.mem_of_getElem? hb)
          refine .inr ⟨rfl, E (.dat (T R)) (.own (.lst ((P.take i ++ [commonL b u.2, withoutL b u.2] ++ P.drop (i + 1)).map T))) (.dat (.lst (ws.map wayD))) (.dat (onceD (cutOnce ws (P.take i ++ [commonL b u.2, withoutL b u.2] ++ P.drop (i + 1))))) (.dat (.int (i : Int))) (.dat (T u.1)) (.dat (T u.2)) (.dat (T b)), ?_, R.length - (P.take i ++ [commonL b u.2, withoutL b u.2] ++ P.drop (i + 1)).length, by omega, _, _, _, _, _, rfl, hr', rfl⟩
          let F (k5 k9 : Sl) (P : List Tx) : Dn.Env := E (.dat (T R)) (.own (.lst (P.map T))) (.dat (.lst (ws.map wayD))) k5 (.dat (.int (i : Int))) (.dat (T u.1)) (.dat (T u.2)) k9
          have a1 : sAsg (bTup (bCons (bName 6) (bCons (bName 7) (bCons (bName 8) bNil)))) (gVar 5) (E (.dat (T R)) (.own (.lst (P.map T))) (.dat (.lst (ws.map wayD))) (.dat (onceD (some (i, u)))) k6 k7 k8 k9) w = .nx (F (.dat (onceD (some (i, u)))) k9 P) w := rfl
          have a2 : sSet 9 (gLend (gIx (gVar 3) (gVar 6))) (F (.dat (onceD (some (i, u)))) k9 P) w = .nx (F (.dat (onceD (some (i, u)))) (.dat (T b)) P) w := by
            refine sSet_ok (d := T b) (w1 := w) (hi := by show 9 < 10; decide) (gLend_ok (gIx_ok (a := .lst (P.map T)) (b := .int (i : Int)) rfl rfl ?_) rfl)
            show atI (P.map T) _ = _
            rw [atI_nat (by rw [List.length_map]; exact hl)]
            rw [List.getElem_map]
            rw [List.getElem?_eq_getElem hl] at hb
            rw [Option.some.inj hb]
          have a3 : sSlc 3 (gPart (gVar 6)) (gPart (gBin oAdd (gVar 6) (gOk (.int 1)))) (gFrz (gLst (gCons (gCall 2 [] m_common (gCons (gVar 9) (gCons (gVar 8) gNil))) (gCons (gCall 2 [] m_without (gCons (gVar 9) (gCons (gVar 8) gNil))) gNil)))) (F (.dat (onceD (some (i, u)))) (.dat (T b)) P) w = .nx (F (.dat (onceD (some (i, u)))) (.dat (T b)) (P.take i ++ [commonL b u.2, withoutL b u.2] ++ P.drop (i + 1))) w := by
            have eg : (gFrz (gLst (gCons (gCall 2 [] m_common (gCons (gVar 9) (gCons (gVar 8) gNil))) (gCons (gCall 2 [] m_without (gCons (gVar 9) (gCons (gVar 8) gNil))) gNil)))) (F (.dat (onceD (some (i, u)))) (.dat (T b)) P) w = .ok (.lst ([commonL b u.2, withoutL b u.2].map T)) w := gFL (ga2 (gCall_dat (ga2 rfl rfl) (m_common_eq (by have := sb.2; omega))) (gCall_dat (ga2 rfl rfl) (m_without_eq (by have := sb.2; omega)))) (by simp)
            unfold sSlc
            rw [show (F (.dat (onceD (some (i, u)))) (.dat (T b)) P)[3]? = some (.own (.lst (P.map T))) from rfl]
            simp only [eg]
            rw [show (gPart (gVar 6)) (F (.dat (onceD (some (i, u)))) (.dat (T b)) P) w = .ok (some (i : Int)) w from rfl]
            simp only
            rw [show (gPart (gBin oAdd (gVar 6) (gOk (.int 1)))) (F (.dat (onceD (some (i, u)))) (.dat (T b)) P) w = .ok (some ((i : Int) + 1)) w from rfl]
            simp only
            rw [if_pos ⟨by omega, by omega, by rw [List.length_map]; omega, by simp [sz_line]; omega⟩]
            have e1 : ((i : Int)).toNat = i := by omega
            have e2 : ((i : Int) + 1).toNat = i + 1 := by omega
            rw [e1, e2, ← List.map_take, ← List.map_drop, ← List.map_append, ← List.map_append]
            rfl
          exact sSeq_nx a1 (sSeq_nx a2 (sSeq_nx a3 (cut psh' (by omega))))) turnsMost (R.length - 1) (E (.dat (T R)) (.own (.lst ([R].map T))) (.dat (.lst (ws.map wayD))) (.dat (onceD (cutOnce ws [R]))) .un .un .un .un) (by show R.length - 1 < 100000; omega) ⟨[R], _, _, _, _, rfl, .start, rfl⟩
    subst ee
    refine ⟨P, .inr ⟨h0, hr, hs⟩, ?_⟩
    have c5 := cut (P := [R]) (k5 := .un) (k6 := .un) (k7 := .un) (k8 := .un) (k9 := .un) (fun b hb => by rw [List.mem_singleton.mp hb]; exact hR) (by simp)
    exact runM_rtf (sSeq_nx s2 (sSeq_nx s3 (sSeq_nx s4 (sSeq_nx c5 (sSeq_nx (sWhile_ok he) rfl)))))
end Mi
end
section
/-! The law's blocks. -/
namespace Mi
open PySem L2 Dn
theorem m__law_blocks_eq {h l : Tx} {ss : List Say} {w : Ds} (H : Hd h) (ok : ∀ s ∈ ss, s.Ok) (few : ss.length ≤ 100) : ∃ P, Fin' (withoutL h l) (waysL ss) P ∧ m__law_blocks [T h, LS ss, T l] w = .own (.lst ((sortT P).map T)) w := by
  have hi := H.hi
  let ws := waysL ss
  let R := withoutL h l
  have hR : Sh R := (hd_sh H).without
  have R6 : R.length ≤ 6 := Nat.le_trans List.filter_sublist.length_le hi
  let E (k3 k4 k5 k6 k7 k8 : Sl) : Dn.Env := [.dat (T h), .dat (LS ss), .dat (T l), k3, k4, k5, k6, k7, k8]
  have s3 : sSet 3 (gCall 2 [] m__law_off (gCons (gVar 0) (gCons (gVar 2) gNil))) (E .un .un .un .un .un .un) w = .nx (E (.dat (T R)) .un .un .un .un .un) w := sSet_ok (hi := by show 3 < 9; decide) (gCall_dat (ga2 rfl rfl) (m__law_off_eq (by omega)))
  have t0 : (gTst (gBin oEq (gVar 3) (gOk (.str "")))) (E (.dat (T R)) .un .un .un .un .un) w = .ok (decide (R = [])) w := gTst_ok (gBin_ok rfl rfl (oEq_nil hR.1))
  by_cases h0 : R = []
  · refine ⟨[], .inl ⟨h0, rfl⟩, runM_rtf (sSeq_nx s3 ?_)⟩
    have : sIf (gTst (gBin oEq (gVar 3) (gOk (.str "")))) (sRetF (gLst gNil)) sSkip (E (.dat (T R)) .un .un .un .un .un) w = .rtf (.lst []) w := sIf_t (w1 := w) (t0.trans (by simp [h0])) rfl
    simp only [sSeq_app, this]
    have e : sortT [] = [] := by simp [sortT]
    rw [e]
    rfl
  · have c0 : sIf (gTst (gBin oEq (gVar 3) (gOk (.str "")))) (sRetF (gLst gNil)) sSkip (E (.dat (T R)) .un .un .un .un .un) w = .nx (E (.dat (T R)) .un .un .un .un .un) w := sIf_f (w1 := w) (t0.trans (by simp [h0])) rfl
    have s4 : sSet 4 (gFrz (gLst (gCons (gVar 3) gNil))) (E (.dat (T R)) .un .un .un .un .un) w = .nx (E (.dat (T R)) (.dat (.lst ([R].map T))) .un .un .un .un) w := sSet_ok (hi := by show 4 < 9; decide) (gFL (ga1 rfl) (by simp))
    have cut : ∀ {P : List Tx} {k5 k6 k7 k8 : Sl}, (∀ b ∈ P, Sh b) → sSet 5 (gCall 3 [] m__law_cut_pair (gCons (gVar 0) (gCons (gVar 1) (gCons (gVar 4) gNil)))) (E (.dat (T R)) (.dat (.lst (P.map T))) k5 k6 k7 k8) w = .nx (E (.dat (T R)) (.dat (.lst (P.map T))) (.dat (pairD2 (cutPair ss P))) k6 k7 k8) w := fun hP =>
      sSet_ok (hi := by show 5 < 9; decide) (gCall_dat (gaC rfl (gaC rfl (gaC rfl gaN))) (m__law_cut_pair_eq hP ok))
    obtain ⟨e, he, P, k6, k7, k8, ee, hr, hs⟩ := while_run (c := gTst (gBin oIsNot (gVar 5) (gOk .non))) (body := b__law_blocks_0) (w := w)
      (fun m env => ∃ (P : List Tx) (k6 k7 k8 : Sl), env = E (.dat (T R)) (.dat (.lst (P.map T))) (.dat (pairD2 (cutPair ss P))) k6 k7 k8 ∧ Run ws R P ∧ m = R.length - P.length)
      (fun env => ∃ (P : List Tx) (k6 k7 k8 : Sl), env = E (.dat (T R)) (.dat (.lst (P.map T))) (.dat (pairD2 (cutPair ss P))) k6 k7 k8 ∧ Run ws R P ∧ Stable ws P)
      (fun m env hI => by
        obtain ⟨P, k6, k7, k8, rfl, hr, hm⟩ := hI
        have hp := hr.part h0
        have pf := hp.few
        have psh := run_sh h0 hr hR
        cases c : cutPair ss P with
        | none => exact .inl ⟨rfl, P, k6, k7, k8, by rw [c], hr, cutPair_none c⟩
        | some z =>
          obtain ⟨b, u⟩ := z
          obtain ⟨hu, hb, hc⟩ := cutPair_some c
          have st := step_end hb hp.nodup hc
          have hr' := Run.step hr hu st
          have pf' := (hr'.part h0).few
          have psh' := run_sh h0 hr' hR
          have ln := st.len
          have sb := psh b hb
          let P' := (P.filter fun x => !decide (x = b)) ++ [commonL b u.2, withoutL b (commonL b u.2)]
          let F (k4 k5 k8 : Sl) : Dn.Env := E (.dat (T R)) k4 k5 (.dat (T b)) (.dat (T (commonL b u.2))) k8
          refine .inr ⟨rfl, F (.dat (.lst (P'.map T))) (.dat (pairD2 (cutPair ss P'))) k8, ?_, R.length - P'.length, (by have h1 : P'.length = P.length + 1 := ln; have h2 : P'.length ≤ R.length := pf'; omega), P', _, _, _, rfl, hr', rfl⟩
          have a1 : sAsg (bTup (bCons (bName 6) (bCons (bName 7) bNil))) (gVar 5) (E (.dat (T R)) (.dat (.lst (P.map T))) (.dat (pairD2 (some (b, u)))) k6 k7 k8) w = .nx (F (.dat (.lst (P.map T))) (.dat (pairD2 (some (b, u)))) k8) w := rfl
          have a2 : sSet 4 (gBin oAdd (gFrz (gLc [8] (gIt srcD (gVar 4)) (bName 8) (gTst (gBin oNe (gVar 8) (gVar 6))) (gVar 8))) (gFrz (gLst (gCons (gVar 7) (gCons (gCall 2 [] m__law_off (gCons (gVar 6) (gCons (gVar 7) gNil))) gNil))))) (F (.dat (.lst (P.map T))) (.dat (pairD2 (some (b, u)))) k8) w = .nx (F (.dat (.lst (P'.map T))) (.dat (pairD2 (some (b, u)))) k8) w := by
            have e := gLc_map (vs := [8]) (gi := gIt srcD (gVar 4)) (b := bName 8) (gt := gTst (gBin oNe (gVar 8) (gVar 6))) (ge := gVar 8) (env := F (.dat (.lst (P.map T))) (.dat (pairD2 (some (b, u)))) k8) (w := w) (w1 := w) P T (fun x => !decide (x = b)) T
              (gIt_ok (d := .lst (P.map T)) rfl rfl) (fun x hx => ⟨(hide [8] (F (.dat (.lst (P.map T))) (.dat (pairD2 (some (b, u)))) k8)).set 8 (.dat (T x)), by simp [F, E], gTst_ok (gBin_ok (a := T x) (b := T b) (w1 := w) (by simp [F, E]) (by simp [F, E]) (oNe_T (psh x hx).1 sb.1)), fun _ => by simp [F, E]⟩) (by rw [sz_line]; omega)
            refine sSet_ok (hi := by show 4 < 9; decide) (d := .lst (P'.map T)) (w1 := w) (gBin_ok (gFrz_lst e) (gFL (ds := [T (commonL b u.2), T (withoutL b (commonL b u.2))]) (ga2 rfl (gCall_dat (ga2 rfl rfl) (m__law_off_eq (by have := sb.2; omega)))) (by simp)) ?_)
            rw [oAdd_lst (by
              have := List.length_filter_le (fun x => !decide (x = b)) P
              simp [sz_line]
              omega)]
            simp [P']
          exact sSeq_nx a1 (sSeq_nx a2 (cut psh'))) turnsMost (R.length - 1) (E (.dat (T R)) (.dat (.lst ([R].map T))) (.dat (pairD2 (cutPair ss [R]))) .un .un .un) (by show R.length - 1 < 100000; omega) ⟨[R], _, _, _, rfl, .start, rfl⟩
    subst ee
    have hp := (hr.part h0).few
    refine ⟨P, .inr ⟨h0, hr, hs⟩, ?_⟩
    refine runM_rtf (sSeq_nx s3 (sSeq_nx c0 (sSeq_nx s4 (sSeq_nx (cut (P := [R]) (fun b hb => by rw [List.mem_singleton.mp hb]; exact hR)) (sSeq_nx (sWhile_ok he) ?_)))))
    have : (gArgsF oSort (gCons (gVar 4) gNil)) (E (.dat (T R)) (.dat (.lst (P.map T))) (.dat (pairD2 (cutPair ss P))) k6 k7 k8) w = .ok (.lst ((sortT P).map T)) w := gArgsF_ok (ga1 (d := .lst (P.map T)) rfl) (oSort_texts (by omega))
    simp only [sRetF_app, this]
end Mi
end
section
/-! told, parted, follows on both sides. -/
namespace Mi
open PySem L2 Dn
theorem runM_nx {n : Nat} {g : GS} {ds : List Dt} {e : Dn.Env} {w w1 : Ds} (h : g (ds.map Sl.dat ++ List.replicate (n - ds.length) .un) w = .nx e w1) : runM n g ds w = .dat .non w1 := by simp only [runM_app, h]
theorem m_need_columns_eq {h l : Tx} {ss : List Say} {w : Ds} (hs : ∀ c ∈ l, c ∈ h) : m_need_columns [bookD h ss, T l] w = .dat .non w := by
  obtain ⟨e2, w2, e3, _, hw⟩ := forG_inv (b := bName 2) (body := b_need_columns_0) (fun _ _ env w' => (∃ k, env = [.dat (bookD h ss), .dat (T l), k]) ∧ w' = w) (fun c : Nat => T [c]) l (by
    intro pre c post env w' hx ⟨⟨k, he⟩, hw⟩
    subst he hw
    have hc : c ∈ h := hs c (by rw [hx]; simp)
    refine ⟨[.dat (bookD h ss), .dat (T l), .dat (T [c])], rfl, .inl ⟨_, w', sIf_f (w1 := w') (gTst_ok (b := false) (gBin_ok (a := T [c]) (b := T h) rfl (gBind1_ok (a := bookD h ss) rfl rfl) ((oNotIn_T c h).trans (by simp [hc])))) rfl, ⟨_, rfl⟩, rfl⟩⟩)
    (env := [.dat (bookD h ss), .dat (T l), .un]) (w := w) ⟨⟨_, rfl⟩, rfl⟩
  subst hw
  exact runM_nx (sFor_ok (gIt_ok rfl (srcD_T l)) e3)
def tellB (c : Nat) (s : Say) : Bool := decide (s.w = tellsT) && (decide (c ∈ s.r) && !decide (c ∈ s.l))
def tellerD (ss : List Say) (c : Nat) : Dt := match ss.findSome? fun s => if tellB c s then some s.d else none with
  | some d => d
  | none => .non
theorem m_teller_of_eq {h : Tx} {ss : List Say} {c : Nat} {w : Ds} (ok : ∀ s ∈ ss, s.Ok) : m_teller_of [bookD h ss, T [c]] w = .dat (tellerD ss c) w := by
  have l := forG_first (b := bTup (bCons (bName 2) (bCons (bName 3) (bCons (bName 4) bNil)))) (body := b_teller_of_0) (fun env => ∃ k2 k3 k4, env = [.dat (bookD h ss), .dat (T [c]), k2, k3, k4])
    (fun s : Say => if tellB c s then some s.d else none) Say.d (w := w) ss (fun s hs env hI => by
      obtain ⟨k2, k3, k4, rfl⟩ := hI
      have so := ok s hs
      let E : Dn.Env := [.dat (bookD h ss), .dat (T [c]), .dat (T s.w), .dat (T s.l), .dat (T s.r)]
      refine ⟨E, rfl, ?_⟩
      have t1 : (gTst (gBin oEq (gVar 2) (gOk (.str "tells")))) E w = .ok (decide (s.w = tellsT)) w := gTst_ok (gBin_ok rfl rfl (oEq_tells so.aw))
      have t2 : (gTst (gBin oIn (gVar 1) (gVar 4))) E w = .ok (decide (c ∈ s.r)) w := gTst_ok (gBin_ok rfl rfl (oIn_T c s.r))
      have t3 : (gTst (gBin oNotIn (gVar 1) (gVar 3))) E w = .ok (!decide (c ∈ s.l)) w := gTst_ok (gBin_ok rfl rfl (oNotIn_T c s.l))
      have t23 : (gAnd (gTst (gBin oIn (gVar 1) (gVar 4))) (gTst (gBin oNotIn (gVar 1) (gVar 3)))) E w = .ok (decide (c ∈ s.r) && !decide (c ∈ s.l)) w := by
        cases e : decide (c ∈ s.r) with
        | true => exact gAnd_t (t2.trans (by rw [e])) (t3.trans (by rw [Bool.true_and]))
        | false => exact gAnd_f (t2.trans (by rw [e]))
      have t : (gAnd (gTst (gBin oEq (gVar 2) (gOk (.str "tells")))) (gAnd (gTst (gBin oIn (gVar 1) (gVar 4))) (gTst (gBin oNotIn (gVar 1) (gVar 3))))) E w = .ok (tellB c s) w := by
        unfold tellB
        cases e : decide (s.w = tellsT) with
        | true => exact gAnd_t (t1.trans (by rw [e])) (t23.trans (by rw [Bool.true_and]))
        | false => exact gAnd_f (t1.trans (by rw [e]))
      cases e : tellB c s with
      | true => exact sIf_t (w1 := w) (t.trans (by rw [e])) (sRet_ok (gTup_ok (gaC rfl (gaC rfl (gaC rfl gaN))) (by simp)))
      | false => exact ⟨E, sIf_f (w1 := w) (t.trans (by rw [e])) rfl, _, _, _, rfl⟩) (env := [.dat (bookD h ss), .dat (T [c]), .un, .un, .un]) ⟨_, _, _, rfl⟩
  unfold tellerD
  cases e : ss.findSome? fun s => if tellB c s then some s.d else none with
  | some d =>
    rw [e] at l
    exact runM_ret (sSeq_ret (sFor_ok (gIt_ok (d := .lst (ss.map Say.d)) (gBind1_ok (a := bookD h ss) rfl rfl) rfl) l))
  | none =>
    rw [e] at l
    obtain ⟨e2, h3, _⟩ := l
    exact runM_ret (sSeq_nx (sFor_ok (gIt_ok (d := .lst (ss.map Say.d)) (gBind1_ok (a := bookD h ss) rfl rfl) rfl) h3) rfl)
def TellP (ss : List Say) (c : Nat) : Prop := ∃ s ∈ ss, s.w = tellsT ∧ c ∈ s.r ∧ c ∉ s.l
theorem teller_non {ss : List Say} {c : Nat} : isNon (tellerD ss c) = false ↔ TellP ss c := by
  unfold tellerD
  cases e : ss.findSome? fun s => if tellB c s then some s.d else none with
  | some d =>
    obtain ⟨s, hs, e⟩ := List.exists_of_findSome?_eq_some e
    split at e
    · cases e
      rename_i ht
      unfold tellB at ht
      simp only [Bool.and_eq_true, decide_eq_true_eq, Bool.not_eq_true', decide_eq_false_iff_not] at ht
      exact ⟨fun _ => ⟨s, hs, ht.1, ht.2.1, ht.2.2⟩, fun _ => rfl⟩
    · cases e
  | none =>
    refine ⟨fun h => (by cases h), fun ⟨s, hs, h1, h2, h3⟩ => ?_⟩
    have := List.findSome?_eq_none_iff.mp e s hs
    have ht : tellB c s = true := by simp [tellB, h1, h2, h3]
    simp [ht] at this
def toldL (ss : List Say) (l : Tx) (P : List Tx) : Tx := unionL l ((P.filter fun b => decide (b.length = 1)).filter fun b => !isNon (tellerD ss (b.headD 0))).flatten
theorem mem_told {ss : List Say} {l : Tx} {P : List Tx} {c : Nat} : c ∈ toldL ss l P ↔ c ∈ l ∨ ([c] ∈ P ∧ TellP ss c) := by
  unfold toldL
  rw [mem_unionL, List.mem_flatten]
  refine or_congr_right ⟨?_, ?_⟩
  · rintro ⟨b, hb, hc⟩
    simp only [List.mem_filter, decide_eq_true_eq, Bool.not_eq_true'] at hb
    obtain ⟨⟨hb, h1⟩, h2⟩ := hb
    match b, h1 with
    | [d], _ =>
      have : c = d := List.mem_singleton.mp hc
      subst this
      exact ⟨hb, teller_non.mp h2⟩
  · rintro ⟨hb, ht⟩
    refine ⟨[c], ?_, by simp⟩
    simp only [List.mem_filter, decide_eq_true_eq, Bool.not_eq_true']
    exact ⟨⟨hb, rfl⟩, teller_non.mpr ht⟩
theorem m_told_eq {h l : Tx} {ss : List Say} {w : Ds} (H : Hd h) (hl : l.Sublist h) (ok : ∀ s ∈ ss, s.Ok) (few : ss.length ≤ 100) : ∃ P, Fin' (withoutL h l) (waysL ss) P ∧ m_told [bookD h ss, T l] w = .dat (T (toldL ss l P)) w := by
  obtain ⟨P, hP, eb⟩ := m_blocks_of_eq (w := w) H (l := l) ok few
  have hi := H.hi
  have ll := hl.length_le
  have R6 : (withoutL h l).length ≤ 6 := Nat.le_trans List.filter_sublist.length_le hi
  have pf := hP.few
  refine ⟨P, hP, ?_⟩
  have plen : ∀ b ∈ P, b.length ≤ 6 := fun b hb => Nat.le_trans (hP.sub b hb).1.length_le R6
  let S := P.filter fun b => decide (b.length = 1)
  let S2 := S.filter fun b => !isNon (tellerD ss (b.headD 0))
  have e1 := gLc_map (vs := [3]) (gi := gIt srcD (gCall 2 [] m_blocks_of (gCons (gVar 0) (gCons (gVar 1) gNil)))) (b := bName 3) (gt := gTst (gBin oEq (gArgs oLen (gCons (gVar 3) gNil)) (gOk (.int 1)))) (ge := gVar 3)
    (env := [.dat (bookD h ss), .dat (T l), .un, .un, .un]) (w := w) (w1 := w) P T (fun b => decide (b.length = 1)) T (gIt_ok (d := .lst (P.map T)) (gCall_own (ga2 rfl rfl) eb) rfl)
    (fun b hb => ⟨[.dat (bookD h ss), .dat (T l), .un, .dat (T b), .un], rfl, gTst_ok (gBin_ok (gArgs_ok (ga1 rfl) (oLen_T (by have := plen b hb; omega))) rfl ((oEq_int _ _).trans (by
      congr 2
      exact decide_eq_decide.mpr (by omega)))), fun _ => rfl⟩) (by rw [sz_line]; omega)
  have sS : S.length ≤ P.length := List.length_filter_le _ _
  have e2 := gLc_map (vs := [4]) (gi := gIt srcD (gVar 2)) (b := bName 4) (gt := gTst (gBin oIsNot (gCall 2 [] m_teller_of (gCons (gVar 0) (gCons (gVar 4) gNil))) (gOk .non))) (ge := gVar 4)
    (env := [.dat (bookD h ss), .dat (T l), .dat (.lst (S.map T)), .un, .un]) (w := w) (w1 := w) S T (fun b => !isNon (tellerD ss (b.headD 0))) T (gIt_ok (d := .lst (S.map T)) rfl rfl)
    (fun b hb => by
      obtain ⟨hb, h1⟩ := List.mem_filter.mp hb
      obtain ⟨c, rfl⟩ : ∃ c, b = [c] := by
        match b, (by simpa using h1 : b.length = 1) with
        | [c], _ => exact ⟨c, rfl⟩
      exact ⟨[.dat (bookD h ss), .dat (T l), .dat (.lst (S.map T)), .un, .dat (T [c])], rfl, gTst_ok (gBin_ok (gCall_dat (ga2 rfl rfl) (m_teller_of_eq ok)) rfl rfl), fun _ => rfl⟩) (by rw [sz_line]; omega)
  have sum : (S2.map (·.length)).sum ≤ 36 := by
    have h1 := sum_le (l := S2.map (·.length)) (n := 6) fun x hx => by
      obtain ⟨y, hy, rfl⟩ := List.mem_map.mp hx
      exact plen y (List.mem_filter.mp (List.mem_filter.mp hy).1).1
    have h2 : S2.length ≤ S.length := List.length_filter_le _ _
    rw [List.length_map] at h1
    omega
  have fl : S2.flatten.length ≤ 36 := by rw [List.length_flatten]; exact sum
  have j : (gM1 oJoin (gOk (.str "")) (gFrz (gLc [4] (gIt srcD (gVar 2)) (bName 4) (gTst (gBin oIsNot (gCall 2 [] m_teller_of (gCons (gVar 0) (gCons (gVar 4) gNil))) (gOk .non))) (gVar 4)))) [.dat (bookD h ss), .dat (T l), .dat (.lst (S.map T)), .un, .un] w = .ok (T S2.flatten) w := gM1_ok (x := Str.ofString "") rfl (gFrz_lst e2) (oJoin_nil S2 (by omega))
  exact runM_ret (sSeq_nx (sDrop_ok (gCall_dat (ga2 (g := gVar 0) (g' := gVar 1) rfl rfl) (m_need_columns_eq fun c hc => hl.subset hc))) (sSeq_nx (sSet_ok (gFrz_lst e1)) (sRetC_dat (ga2 rfl j) (m_union_eq (by omega)))))
end Mi
end
section
/-! The law's told; parted, follows on both sides. -/
namespace Mi
open PySem L2 Dn
def extraOf (Q : List Tx) (s : Say) : Tx := if s.w = tellsT then (withoutL s.r s.l).filter fun c => decide ([c] ∈ Q) else []
def extraL (ss : List Say) (Q : List Tx) : Tx := (ss.map (extraOf Q)).flatten
theorem extra_cons (Q : List Tx) (s : Say) (ss : List Say) : extraL (s :: ss) Q = extraOf Q s ++ extraL ss Q := rfl
theorem extraOf_len {Q : List Tx} {s : Say} (h : s.Ok) : (extraOf Q s).length ≤ 1000 := by
  unfold extraOf
  split
  · exact Nat.le_trans (List.length_filter_le _ _) (Nat.le_trans (List.length_filter_le _ _) h.lr)
  · simp
theorem mem_extra {ss : List Say} {Q : List Tx} {c : Nat} : c ∈ extraL ss Q ↔ [c] ∈ Q ∧ TellP ss c := by
  unfold extraL
  rw [List.mem_flatten]
  constructor
  · rintro ⟨l, hl, hc⟩
    obtain ⟨s, hs, rfl⟩ := List.mem_map.mp hl
    unfold extraOf at hc
    split at hc
    · rename_i hw
      rw [List.mem_filter, mem_withoutL, decide_eq_true_eq] at hc
      exact ⟨hc.2, s, hs, hw, hc.1.1, hc.1.2⟩
    · cases hc
  · rintro ⟨hq, s, hs, hw, hr, hl⟩
    refine ⟨extraOf Q s, List.mem_map.mpr ⟨s, hs, rfl⟩, ?_⟩
    unfold extraOf
    rw [if_pos hw, List.mem_filter, mem_withoutL, decide_eq_true_eq]
    exact ⟨⟨hr, hl⟩, hq⟩
theorem m__law_tells_eq {h l : Tx} {ss : List Say} {w : Ds} (H : Hd h) (hl : l.Sublist h) (ok : ∀ s ∈ ss, s.Ok) (few : ss.length ≤ 100) : ∃ P, Fin' (withoutL h l) (waysL ss) P ∧ m__law_tells [T h, LS ss, T l] w = .dat (T (commonL h (l ++ extraL ss (sortT P)))) w := by
  obtain ⟨P, hP, eb⟩ := m__law_blocks_eq (w := w) H (l := l) ok few
  have hi := H.hi
  have ll := hl.length_le
  refine ⟨P, hP, ?_⟩
  let Q := sortT P
  have qa : ∀ b ∈ Q, Asc b := fun b hb => asc_sub H.asc ((hP.sub b (mem_sortT.mp hb)).1.trans List.filter_sublist)
  let E (k4 k5 k6 k7 k8 : Sl) : Dn.Env := [.dat (T h), .dat (LS ss), .dat (T l), .dat (.lst (Q.map T)), k4, k5, k6, k7, k8]
  have inner : ∀ (xs : Tx) (acc : Tx) (k5 k6 k7 k8 : Sl), Asc xs → acc.length + xs.length ≤ 1000000 → ∃ k8', forG (bName 8) b__law_tells_0 (xs.map fun c => T [c]) (E (.dat (T acc)) k5 k6 k7 k8) w = .nx (E (.dat (T (acc ++ xs.filter fun c => decide ([c] ∈ Q)))) k5 k6 k7 k8') w := by
    intro xs
    induction xs with
    | nil => exact fun acc k5 k6 k7 k8 _ _ => ⟨k8, by simp [forG]⟩
    | cons c xs ih =>
      intro acc k5 k6 k7 k8 hx hl
      rw [List.length_cons] at hl
      have ca : Asc [c] := fun d hd => hx d (by rw [List.mem_singleton.mp hd]; simp)
      rw [List.map_cons]
      unfold forG
      rw [show bName 8 (T [c]) (E (.dat (T acc)) k5 k6 k7 k8) = some (E (.dat (T acc)) k5 k6 k7 (.dat (T [c]))) from rfl]
      simp only
      have t : (gTst (gBin oIn (gVar 8) (gVar 3))) (E (.dat (T acc)) k5 k6 k7 (.dat (T [c]))) w = .ok (decide ([c] ∈ Q)) w := gTst_ok (gBin_ok (a := T [c]) (b := .lst (Q.map T)) rfl rfl (oIn_texts ca qa))
      have body : b__law_tells_0 (E (.dat (T acc)) k5 k6 k7 (.dat (T [c]))) w = .nx (E (.dat (T (acc ++ [c].filter fun c => decide ([c] ∈ Q)))) k5 k6 k7 (.dat (T [c]))) w := by
        by_cases hq : [c] ∈ Q
        · have e : ([c].filter fun c => decide ([c] ∈ Q)) = [c] := by simp [hq]
          rw [e]
          exact sIf_t (w1 := w) (t.trans (by simp [hq])) (sSet_ok (hi := by show 4 < 9; decide) (gBin_ok (a := T acc) (b := T [c]) rfl rfl (oAdd_T (by simp; omega))))
        · have e : ([c].filter fun c => decide ([c] ∈ Q)) = [] := by simp [hq]
          rw [e, List.append_nil]
          exact sIf_f (w1 := w) (t.trans (by simp [hq])) rfl
      rw [body]
      simp only
      have fl : ([c].filter fun c => decide ([c] ∈ Q)).length ≤ 1 := List.length_filter_le _ _
      obtain ⟨k8', e⟩ := ih (acc ++ [c].filter fun c => decide ([c] ∈ Q)) k5 k6 k7 (.dat (T [c])) (fun d hd => hx d (List.mem_cons_of_mem _ hd)) (by rw [List.length_append]; omega)
      refine ⟨k8', ?_⟩
      rw [e, List.append_assoc, ← List.filter_append]
      rfl
  have outer : ∀ (xs : List Say) (acc : Tx) (k5 k6 k7 k8 : Sl), (∀ s ∈ xs, s.Ok) → acc.length + 1000 * xs.length ≤ 500000 → ∃ k5' k6' k7' k8', forG (bTup (bCons (bName 5) (bCons (bName 6) (bCons (bName 7) bNil)))) b__law_tells_1 (xs.map Say.d) (E (.dat (T acc)) k5 k6 k7 k8) w = .nx (E (.dat (T (acc ++ extraL xs Q))) k5' k6' k7' k8') w := by
    intro xs
    induction xs with
    | nil => exact fun acc k5 k6 k7 k8 _ _ => ⟨k5, k6, k7, k8, by simp [forG, extraL]⟩
    | cons s xs ih =>
      intro acc k5 k6 k7 k8 hk hl
      rw [List.length_cons] at hl
      have so := hk s List.mem_cons_self
      have xl := extraOf_len (Q := Q) so
      rw [List.map_cons]
      unfold forG
      rw [show bTup (bCons (bName 5) (bCons (bName 6) (bCons (bName 7) bNil))) s.d (E (.dat (T acc)) k5 k6 k7 k8) = some (E (.dat (T acc)) (.dat (T s.w)) (.dat (T s.l)) (.dat (T s.r)) k8) from rfl]
      simp only
      have t : (gTst (gBin oEq (gVar 5) (gOk (.str "tells")))) (E (.dat (T acc)) (.dat (T s.w)) (.dat (T s.l)) (.dat (T s.r)) k8) w = .ok (decide (s.w = tellsT)) w := gTst_ok (gBin_ok rfl rfl (oEq_tells so.aw))
      have body : ∃ k8', b__law_tells_1 (E (.dat (T acc)) (.dat (T s.w)) (.dat (T s.l)) (.dat (T s.r)) k8) w = .nx (E (.dat (T (acc ++ extraOf Q s))) (.dat (T s.w)) (.dat (T s.l)) (.dat (T s.r)) k8') w := by
        unfold extraOf
        by_cases hw : s.w = tellsT
        · rw [if_pos hw]
          have wl : (withoutL s.r s.l).length ≤ 1000 := Nat.le_trans (List.length_filter_le _ _) so.lr
          obtain ⟨k8', e⟩ := inner (withoutL s.r s.l) acc (.dat (T s.w)) (.dat (T s.l)) (.dat (T s.r)) k8 (asc_sub so.ar List.filter_sublist) (by omega)
          exact ⟨k8', sIf_t (w1 := w) (t.trans (by simp [hw])) (sFor_ok (gIt_ok (gCall_dat (ga2 rfl rfl) (m__law_off_eq (by have := so.lr; omega))) (srcD_T _)) e)⟩
        · rw [if_neg hw, List.append_nil]
          exact ⟨k8, sIf_f (w1 := w) (t.trans (by simp [hw])) rfl⟩
      obtain ⟨k8', body⟩ := body
      rw [body]
      simp only
      obtain ⟨a5, a6, a7, a8, e⟩ := ih (acc ++ extraOf Q s) (.dat (T s.w)) (.dat (T s.l)) (.dat (T s.r)) k8' (fun x hx => hk x (List.mem_cons_of_mem _ hx)) (by rw [List.length_append]; omega)
      exact ⟨a5, a6, a7, a8, by rw [e, extra_cons, List.append_assoc]⟩
  obtain ⟨a5, a6, a7, a8, e⟩ := outer ss l .un .un .un .un ok (by omega)
  refine runM_ret (sSeq_nx (sSet_ok (gCall_own (gaC rfl (gaC rfl (gaC rfl gaN))) eb)) (sSeq_nx (sSet_ok (d := T l) (w1 := w) rfl) (sSeq_nx (sFor_ok (gIt_ok (d := LS ss) rfl rfl) e) (sRetC_dat (ga2 (g := gVar 0) (g' := gVar 4) rfl rfl) (m__law_of_eq (by omega))))))
/-- what is told is the same on both sides -/
theorem told_same {h l : Tx} {ss : List Say} {P Q : List Tx} (H : Hd h) (hl : l.Sublist h) (hP : Fin' (withoutL h l) (waysL ss) P) (hQ : Fin' (withoutL h l) (waysL ss) Q) : toldL ss l P = commonL h (l ++ extraL ss (sortT Q)) := by
  have pm := hP.perm (H.ris.sublist List.filter_sublist) hQ
  refine ris_ext (ris_ordL _) (H.ris.sublist List.filter_sublist) fun c => ?_
  rw [mem_told, mem_commonL, List.mem_append, mem_extra, mem_sortT, ← pm.mem_iff]
  constructor
  · rintro (hc | ⟨hc, ht⟩)
    · exact ⟨hl.subset hc, .inl hc⟩
    · exact ⟨((hP.sub _ hc).1.trans List.filter_sublist).subset (by simp), .inr ⟨hc, ht⟩⟩
  · rintro ⟨_, hc | hc⟩
    · exact .inl hc
    · exact .inr hc
/-! ### parted -/
/-! ### follows -/
def madeB (P : List Tx) (r : Tx) : Bool := P.all fun b => decide (commonL b r = []) || decide (commonL b r = b)
theorem m_made_of_eq {P : List Tx} {r : Tx} {w : Ds} (hP : ∀ b ∈ P, Sh b) (few : P.length ≤ 1000) : m_made_of [.lst (P.map T), T r] w = .dat (.bl (madeB P r)) w := by
  have e := gLc_map (vs := [2]) (gi := gIt srcD (gVar 0)) (b := bName 2) (gt := gYes) (ge := gBin oInT (gCall 2 [] m_common (gCons (gVar 2) (gCons (gVar 1) gNil))) (gTup (gCons (gOk (.str "")) (gCons (gVar 2) gNil))))
    (env := [.dat (.lst (P.map T)), .dat (T r), .un]) (w := w) (w1 := w) P T (fun _ => true) (fun b => .bl (decide (commonL b r = []) || decide (commonL b r = b))) (gIt_ok (d := .lst (P.map T)) rfl rfl)
    (fun b hb => ⟨[.dat (.lst (P.map T)), .dat (T r), .dat (T b)], rfl, rfl, fun _ => gBin_ok (gCall_dat (ga2 rfl rfl) (m_common_eq (by have := (hP b hb).2; omega))) (gTup_ok (ga2 rfl rfl) (by simp)) oInT_two⟩) (by rw [sz_line]; omega)
  rw [filter_tt] at e
  exact runM_ret (sRet_ok (gArgs_ok (ga1 (gFrz_lst e)) (oAll_map P fun b => decide (commonL b r = []) || decide (commonL b r = b))))
theorem fin_sh {h l : Tx} {ss : List Say} {P : List Tx} (H : Hd h) (hP : Fin' (withoutL h l) (waysL ss) P) : ∀ b ∈ P, Sh b := fun b hb => by
  have s := (hP.sub b hb).1.trans List.filter_sublist
  have := s.length_le
  have := H.hi
  exact ⟨asc_sub H.asc s, by omega⟩
def followB (ss : List Say) (y : Sy) (P : List Tx) : Bool := if y.tells then withinL y.r (toldL ss y.l P) else madeB P y.r
theorem m_follows_eq {h : Tx} {ss : List Say} {y : Sy} {w : Ds} (H : Hd h) (hl : y.l.Sublist h) (hr : y.r.Sublist h) (ok : ∀ s ∈ ss, s.Ok) (few : ss.length ≤ 100) : ∃ P, Fin' (withoutL h y.l) (waysL ss) P ∧ m_follows [bookD h ss, y.d] w = .dat (.bl (followB ss y P)) w := by
  have hi := H.hi
  have l1 := hl.length_le
  have l2 := hr.length_le
  have lk := m_looked_eq (s := y) (h := h) (w := w) (by omega) (by omega)
  rw [show (okSide y.l h && okSide y.r h) = true from by
    unfold okSide
    rw [set_sub H hl, set_sub H hr, withinL_iff.mpr fun c hc => hl.subset hc, withinL_iff.mpr fun c hc => hr.subset hc]
    rfl, if_pos rfl] at lk
  let E : Dn.Env := [.dat (bookD h ss), .dat y.d, .dat (T y.word), .dat (T y.l), .dat (T y.r)]
  have s1 : sDrop (gCall 2 [(.int 0)] m_looked (gCons (gVar 1) (gCons (gBind1 (oFld ["Book"] "letters") (gVar 0)) gNil))) [.dat (bookD h ss), .dat y.d, .un, .un, .un] w = .nx [.dat (bookD h ss), .dat y.d, .un, .un, .un] w := sDrop_ok (gCall_dd (dds := [.int 0]) (ga2 (g := gVar 1) (d := y.d) (w1 := w) rfl (gBind1_ok (a := bookD h ss) (r := T h) rfl rfl)) lk)
  have s2 : sAsg (bTup (bCons (bName 2) (bCons (bName 3) (bCons (bName 4) bNil)))) (gVar 1) [.dat (bookD h ss), .dat y.d, .un, .un, .un] w = .nx E w := rfl
  have t : (gTst (gBin oEq (gVar 2) (gOk (.str "tells")))) E w = .ok y.tells w := gTst_ok (gBin_ok rfl rfl y.eq_tells)
  cases c : y.tells with
  | true =>
    obtain ⟨P, hP, e⟩ := m_told_eq (w := w) H hl ok few
    refine ⟨P, hP, ?_⟩
    have hf : followB ss y P = withinL y.r (toldL ss y.l P) := by unfold followB; rw [c]; rfl
    rw [hf]
    exact runM_ret (sSeq_nx s1 (sSeq_nx s2 (sSeq_ret (sIf_t (w1 := w) (t.trans (by rw [c])) (sRetC_dat (ga2 rfl (gCall_dat (ga2 rfl rfl) e)) (m_within_eq (by omega)))))))
  | false =>
    obtain ⟨P, hP, e⟩ := m_blocks_of_eq (w := w) H (l := y.l) ok few
    refine ⟨P, hP, ?_⟩
    have hf : followB ss y P = madeB P y.r := by unfold followB; rw [c]; rfl
    rw [hf]
    have R6 : (withoutL h y.l).length ≤ 6 := Nat.le_trans List.filter_sublist.length_le hi
    have pf := hP.few
    exact runM_ret (sSeq_nx s1 (sSeq_nx s2 (sSeq_nx (sIf_f (w1 := w) (t.trans (by rw [c])) rfl) (sRetC_dat (ga2 (gCall_own (ga2 rfl rfl) e) rfl) (m_made_of_eq (fin_sh H hP) (by omega))))))
theorem m__law_follows_eq {h : Tx} {ss : List Say} {y : Sy} {w : Ds} (H : Hd h) (hl : y.l.Sublist h) (hr : y.r.Sublist h) (ok : ∀ s ∈ ss, s.Ok) (few : ss.length ≤ 100) : ∃ P, Fin' (withoutL h y.l) (waysL ss) P ∧ m__law_follows [T h, LS ss, y.d] w = .dat (.bl (followB ss y P)) w := by
  have hi := H.hi
  have l1 := hl.length_le
  have l2 := hr.length_le
  let E (k6 : Sl) : Dn.Env := [.dat (T h), .dat (LS ss), .dat y.d, .dat (T y.word), .dat (T y.l), .dat (T y.r), k6]
  have s2 : sAsg (bTup (bCons (bName 3) (bCons (bName 4) (bCons (bName 5) bNil)))) (gVar 2) [.dat (T h), .dat (LS ss), .dat y.d, .un, .un, .un, .un] w = .nx (E .un) w := rfl
  have t : (gTst (gBin oEq (gVar 3) (gOk (.str "tells")))) (E .un) w = .ok y.tells w := gTst_ok (gBin_ok rfl rfl y.eq_tells)
  cases c : y.tells with
  | true =>
    obtain ⟨P, hP, e⟩ := m__law_tells_eq (w := w) H hl ok few
    refine ⟨P, hP, ?_⟩
    have hf : followB ss y P = withinL y.r (commonL h (y.l ++ extraL ss (sortT P))) := by unfold followB; rw [c, ← told_same H hl hP hP]; rfl
    rw [hf]
    exact runM_ret (sSeq_nx s2 (sSeq_ret (sIf_t (w1 := w) (t.trans (by rw [c])) (sRetC_dat (ga2 rfl (gCall_dat (gaC rfl (gaC rfl (gaC rfl gaN))) e)) (m__law_in_eq (by omega))))))
  | false =>
    obtain ⟨P, hP, e⟩ := m__law_blocks_eq (w := w) H (l := y.l) ok few
    refine ⟨P, hP, ?_⟩
    have hf : followB ss y P = madeB P y.r := by unfold followB; rw [c]; rfl
    have R6 : (withoutL h y.l).length ≤ 6 := Nat.le_trans List.filter_sublist.length_le hi
    have pf := hP.few
    have hs : madeB (sortT P) y.r = madeB P y.r := by
      unfold madeB
      rw [Bool.eq_iff_iff, List.all_eq_true, List.all_eq_true]
      exact ⟨fun h b hb => h b (mem_sortT.mpr hb), fun h b hb => h b (mem_sortT.mp hb)⟩
    rw [hf, ← hs]
    have sh : ∀ b ∈ sortT P, Sh b := fun b hb => fin_sh H hP b (mem_sortT.mp hb)
    have sl := sortT_len P
    have e2 := gLc_map (vs := [6]) (gi := gIt srcD (gCall 3 [] m__law_blocks (gCons (gVar 0) (gCons (gVar 1) (gCons (gVar 4) gNil))))) (b := bName 6) (gt := gYes) (ge := gBin oInT (gCall 2 [] m__law_of (gCons (gVar 6) (gCons (gVar 5) gNil))) (gTup (gCons (gOk (.str "")) (gCons (gVar 6) gNil))))
      (env := E .un) (w := w) (w1 := w) (sortT P) T (fun _ => true) (fun b => .bl (decide (commonL b y.r = []) || decide (commonL b y.r = b))) (gIt_ok (d := .lst ((sortT P).map T)) (gCall_own (gaC rfl (gaC rfl (gaC rfl gaN))) e) rfl)
      (fun b hb => ⟨E (.dat (T b)), rfl, rfl, fun _ => gBin_ok (gCall_dat (ga2 rfl rfl) (m__law_of_eq (by have := (sh b hb).2; omega))) (gTup_ok (ga2 rfl rfl) (by simp)) oInT_two⟩) (by rw [sz_line]; omega)
    rw [filter_tt] at e2
    exact runM_ret (sSeq_nx s2 (sSeq_nx (sIf_f (w1 := w) (t.trans (by rw [c])) rfl) (sRet_ok (gArgs_ok (ga1 (gFrz_lst e2)) (oAll_map (sortT P) fun b => decide (commonL b y.r = []) || decide (commonL b y.r = b))))))
theorem follow_same {h : Tx} {ss : List Say} {y : Sy} {P Q : List Tx} (H : Hd h) (hl : y.l.Sublist h) (hP : Fin' (withoutL h y.l) (waysL ss) P) (hQ : Fin' (withoutL h y.l) (waysL ss) Q) : followB ss y P = followB ss y Q := by
  have pm := hP.perm (H.ris.sublist List.filter_sublist) hQ
  unfold followB
  rw [told_same H hl hP hQ, ← told_same H hl hQ hQ]
  have : madeB P y.r = madeB Q y.r := by
    unfold madeB
    rw [Bool.eq_iff_iff, List.all_eq_true, List.all_eq_true]
    exact ⟨fun h b hb => h b (pm.mem_iff.mpr hb), fun h b hb => h b (pm.mem_iff.mp hb)⟩
  rw [this]
end Mi
end
section
/-! What follows, as a function; spare sayings, lean books, books compared. -/
namespace Mi
open PySem L2 Dn
def syOf (s : Say) : Sy := ⟨decide (s.w = tellsT), s.l, s.r⟩
theorem syOf_d {h : Tx} {s : Say} (a : SayH h s) : (syOf s).d = s.d := by
  have : (syOf s).word = s.w := by
    show (if decide (s.w = tellsT) = true then tellsT else partsT) = s.w
    rcases a.wd with e | e <;> rw [e] <;> decide
  show Dt.tup [T (syOf s).word, T s.l, T s.r] = Dt.tup [T s.w, T s.l, T s.r]
  rw [this]
open Classical in
noncomputable def followF (h : Tx) (ss : List Say) (s : Say) : Bool := if ∃ P, Fin' (withoutL h s.l) (waysL ss) P ∧ followB ss (syOf s) P = true then true else false
theorem followF_eq {h : Tx} {ss : List Say} {s : Say} {P : List Tx} (H : Hd h) (a : SayH h s) (hP : Fin' (withoutL h s.l) (waysL ss) P) : followB ss (syOf s) P = followF h ss s := by
  unfold followF
  cases e : followB ss (syOf s) P with
  | true => rw [if_pos ⟨P, hP, e⟩]
  | false =>
    rw [if_neg]
    rintro ⟨Q, hQ, e2⟩
    rw [follow_same (y := syOf s) H a.l hQ hP, e] at e2
    cases e2
theorem follows_ok {h : Tx} {ss : List Say} {s : Say} {w : Ds} (H : Hd h) (a : SayH h s) (ok : ∀ s ∈ ss, SayH h s) (few : ss.length ≤ 100) : m_follows [bookD h ss, s.d] w = .dat (.bl (followF h ss s)) w := by
  obtain ⟨P, hP, e⟩ := m_follows_eq (y := syOf s) (w := w) H a.l a.r (fun s h => (ok s h).ok H) few
  rw [← syOf_d a, e, followF_eq H a hP]
theorem law_follows_ok {h : Tx} {ss : List Say} {s : Say} {w : Ds} (H : Hd h) (a : SayH h s) (ok : ∀ s ∈ ss, SayH h s) (few : ss.length ≤ 100) : m__law_follows [T h, LS ss, s.d] w = .dat (.bl (followF h ss s)) w := by
  obtain ⟨P, hP, e⟩ := m__law_follows_eq (y := syOf s) (w := w) H a.l a.r (fun s h => (ok s h).ok H) few
  rw [← syOf_d a, e, followF_eq H a hP]
/-! ### the others -/
def others (ss : List Say) (s : Say) : List Say := ss.filter fun x => !decide (x = s)
/-! ### spare -/
/-! ### lean -/
/-! ### compared -/
end Mi
end
section
/-! k13: what is told grows, holds still, follows. Plain lists. -/
namespace Mi
open PySem L2 Dn
theorem Fin'.stable {R : Tx} {ws : List Way} {P : List Tx} (a : Fin' R ws P) : Stable ws P := by
  rcases a with ⟨a1, a2⟩ | ⟨_, _, a3⟩
  · rw [a2]; exact fun _ _ b hb => by cases hb
  · exact a3
theorem Fin'.cover {R : Tx} {ws : List Way} {P : List Tx} (a : Fin' R ws P) {c : Nat} (hc : c ∈ R) : ∃ b ∈ P, c ∈ b := by
  rcases a with ⟨a1, a2⟩ | ⟨a1, a2, _⟩
  · rw [a1] at hc; cases hc
  · exact (a2.part a1).all c hc
theorem Fin'.one {R : Tx} {ws : List Way} {P : List Tx} (a : Fin' R ws P) {x y : Tx} {c : Nat} (hx : x ∈ P) (hy : y ∈ P) (h1 : c ∈ x) (h2 : c ∈ y) : x = y := by
  rcases a with ⟨a1, a2⟩ | ⟨a1, a2, _⟩
  · rw [a2] at hx; cases hx
  · exact pair_mem (a2.part a1).dis hx hy h1 h2
/-- what no way cuts lies within one block -/
theorem Fin'.within {R : Tx} {ws : List Way} {P Q : List Tx} (a : Fin' R ws P) (hs : Stable ws Q) (hq : ∀ q ∈ Q, q ≠ [] ∧ ∀ c ∈ q, c ∈ R) : Coarser P Q := by
  rcases a with ⟨a1, a2⟩ | ⟨a1, a2, a3⟩
  · intro q h
    obtain ⟨n, s⟩ := hq q h
    obtain ⟨c, l, e⟩ := List.exists_cons_of_ne_nil n
    have := s c (by rw [e]; simp)
    rw [a1] at this
    cases this
  · clear a3
    induction a2 with
    | start => exact fun q h => ⟨R, by simp, (hq q h).2⟩
    | step _ hw s ih => exact s.coarser hw hs ih
theorem Stable.mono {ws ws' : List Way} {P : List Tx} (h : Stable ws' P) (s : ∀ w ∈ ws, w ∈ ws') : Stable ws P := fun w hw b hb => h w (s w hw) b hb
theorem Stable.part {ws : List Way} {P Q : List Tx} (h : Stable ws P) (s : ∀ b ∈ Q, b ∈ P) : Stable ws Q := fun w hw b hb => h w hw b (s b hb)
theorem ris_single {b : Tx} {c : Nat} (h : Ris b) (n : b ≠ []) (hs : ∀ d ∈ b, d = c) : b = [c] := by
  obtain ⟨x, l, rfl⟩ := List.exists_cons_of_ne_nil n
  have hx := hs x List.mem_cons_self
  subst hx
  match l, h with
  | [], _ => rfl
  | y :: l, h =>
    have := (List.pairwise_cons.mp h).1 y List.mem_cons_self
    have := hs y (by simp)
    omega
theorem Fin'.ris {h l : Tx} {ws : List Way} {P : List Tx} (H : Hd h) (a : Fin' (withoutL h l) ws P) : ∀ b ∈ P, Ris b ∧ b ≠ [] ∧ ∀ c ∈ b, c ∈ h ∧ c ∉ l := fun b hb => by
  obtain ⟨s, n⟩ := a.sub b hb
  exact ⟨(H.ris.sublist List.filter_sublist).sublist s, n, fun c hc => mem_withoutL.mp (s.subset hc)⟩
/-- smaller blocks with more ways, more on the left -/
theorem Fin'.finer {h l l' : Tx} {ws ws' : List Way} {P Q : List Tx} (H : Hd h) (a : Fin' (withoutL h l) ws P) (b : Fin' (withoutL h l') ws' Q) (hl : ∀ c ∈ l, c ∈ l') (hw : ∀ w ∈ ws, w ∈ ws') : Coarser P Q :=
  a.within (b.stable.mono hw) fun q hq => ⟨(b.ris H q hq).2.1, fun c hc => mem_withoutL.mpr ⟨((b.ris H q hq).2.2 c hc).1, fun m => ((b.ris H q hq).2.2 c hc).2 (hl c m)⟩⟩
theorem single_finer {h l l' : Tx} {ws ws' : List Way} {P Q : List Tx} (H : Hd h) (a : Fin' (withoutL h l) ws P) (b : Fin' (withoutL h l') ws' Q) (hl : ∀ c ∈ l, c ∈ l') (hw : ∀ w ∈ ws, w ∈ ws') {c : Nat} (hc : [c] ∈ P) (hn : c ∉ l') : [c] ∈ Q := by
  have ch := ((a.ris H _ hc).2.2 c (by simp)).1
  obtain ⟨q, hq, hcq⟩ := b.cover (mem_withoutL.mpr ⟨ch, hn⟩)
  obtain ⟨x, hx, s⟩ := a.finer H b hl hw q hq
  have := a.one hx hc (s c hcq) (by simp)
  subst this
  obtain ⟨r, n, _⟩ := b.ris H q hq
  rw [← ris_single r n fun d hd => List.mem_singleton.mp (s d hd)]
  exact hq
/-- more is told on more -/
theorem told_mono {h l l' : Tx} {ss ss' : List Say} {P Q : List Tx} (H : Hd h) (a : Fin' (withoutL h l) (waysL ss) P) (b : Fin' (withoutL h l') (waysL ss') Q) (hl : ∀ c ∈ l, c ∈ l') (hs : ∀ s ∈ ss, s ∈ ss') : ∀ c ∈ toldL ss l P, c ∈ toldL ss' l' Q := fun c hc => by
  have hw : ∀ w ∈ waysL ss, w ∈ waysL ss' := fun w hw => by
    obtain ⟨s, m, hw⟩ := mem_waysL.mp hw
    exact mem_waysL.mpr ⟨s, hs s m, hw⟩
  rw [mem_told] at hc ⊢
  rcases hc with hc | ⟨hc, s, m, t⟩
  · exact .inl (hl c hc)
  · by_cases hn : c ∈ l'
    · exact .inl hn
    · exact .inr ⟨single_finer H a b hl hw hc hn, s, hs s m, t⟩
end Mi
end
section
/-! k13: a saying that follows cuts nothing. -/
namespace Mi
open PySem L2 Dn
end Mi
end
section
/-! Book.more. -/
namespace Mi
open PySem L2 Dn
end Mi
end
section
/-! Blocks and what is told, as functions; least sets, keys. -/
namespace Mi
open PySem L2 Dn
section
variable {h l : Tx} {ss : List Say} {w : Ds}
open Classical in
noncomputable def finF (h : Tx) (ss : List Say) (l : Tx) : List Tx := if e : ∃ P, Fin' (withoutL h l) (waysL ss) P then e.choose else []
theorem finF_ok (H : Hd h) (ok : ∀ s ∈ ss, SayH h s) (few : ss.length ≤ 100) : Fin' (withoutL h l) (waysL ss) (finF h ss l) := by
  obtain ⟨P, hP, _⟩ := m_blocks_of_eq (w := w0 []) (l := l) H (fun s h => (ok s h).ok H) few
  have e : ∃ P, Fin' (withoutL h l) (waysL ss) P := ⟨P, hP⟩
  unfold finF
  rw [dif_pos e]
  exact e.choose_spec
theorem told_one {P Q : List Tx} (H : Hd h) (a : Fin' (withoutL h l) (waysL ss) P) (b : Fin' (withoutL h l) (waysL ss) Q) : toldL ss l P = toldL ss l Q :=
  ris_ext (ris_ordL _) (ris_ordL _) fun c => ⟨told_mono H a b (fun _ x => x) (fun _ x => x) c, told_mono H b a (fun _ x => x) (fun _ x => x) c⟩
noncomputable def toldF (h : Tx) (ss : List Say) (l : Tx) : Tx := toldL ss l (finF h ss l)
theorem told_ok (H : Hd h) (hl : l.Sublist h) (ok : ∀ s ∈ ss, SayH h s) (few : ss.length ≤ 100) : m_told [bookD h ss, T l] w = .dat (T (toldF h ss l)) w := by
  obtain ⟨Q, hQ, e⟩ := m_told_eq (w := w) H hl (fun s h => (ok s h).ok H) few
  rw [e, told_one H hQ (finF_ok H ok few)]
  rfl
/-! ### least sets -/
end
end Mi
end
section
/-! Wider heads; a drawn saying of a head; appends. -/
namespace Mi
open PySem L2 Dn
theorem saying_draw {w : Ds} {h : Tx} (hw : Wk w) (H : Hd h) : ∃ (s : Say) (w' : Ds), m__law_saying [.wd, T h] w = .dat s.d w' ∧ SayH h s ∧ Wk w' := by
  have hi := H.hi
  have lo := H.lo
  obtain ⟨y, w', e, l, r, hw'⟩ := m__law_saying_eq hw (h := h) (by omega) (by omega) H.asc
  exact ⟨sayOf y, w', e, sayOf_h l r, hw'⟩
theorem ix_map {α : Type} {f : α → Dt} {xs : List α} {n : Nat} {w : Ds} (hn : n < xs.length) : oIx w (.lst (xs.map f)) (.int (n : Int)) = some (f xs[n]) := by
  show atI (xs.map f) (n : Int) = _
  rw [atI_nat (by simpa using hn)]
  simp
end Mi
end
section
/-! Faults, as functions. -/
namespace Mi
open PySem L2 Dn
end Mi
end
section
/-! The law's first fault is the same. -/
namespace Mi
open PySem L2 Dn
open PyProof.Rows
open PySem.W (AllAlike Sortable dataLe alike alikeAll)
end Mi
end
section
/-! Faults: what they say. -/
namespace Mi
open PySem L2 Dn
end Mi
end
section
/-! Splitting off comes to an end. -/
namespace Mi
open PySem L2 Dn
end Mi
end
section
/-! Partings looked at; what is told by parts. -/
namespace Mi
open PySem L2 Dn
section
variable {h l p : Tx} {ss : List Say} {w : Ds}
/-! ### a parting -/
structure Sds (xs : List Tx) : Prop where
  asc : ∀ x ∈ xs, Asc x
  len : ∀ x ∈ xs, x.length ≤ 100
  few : xs.length ≤ 100
theorem Sds.sum {xs : List Tx} (s : Sds xs) : (xs.map (·.length)).sum ≤ 16777216 := by
  have key : ∀ xs : List Tx, (∀ x ∈ xs, x.length ≤ 100) → (xs.map (·.length)).sum ≤ 100 * xs.length := by
    intro xs
    induction xs with
    | nil => intro _; simp
    | cons a r ih =>
      intro hx
      have := ih fun x hx' => hx x (List.mem_cons_of_mem _ hx')
      have := hx a List.mem_cons_self
      simp only [List.map_cons, List.sum_cons, List.length_cons]
      omega
  have := key xs s.len
  have := s.few
  omega
/-! ### growing by parts -/
end
end Mi
end
section
/-! The law's own look for clashes; what a table keeps. -/
namespace Mi
open PySem L2 Dn
section
variable {h p l r t : Tx} {a b : List Int} {w : Ds}
theorem zip_rng (hl : a.length = h.length) : a.zip h = (List.range h.length).map fun k => (a.getD k 0, h.getD k 0) := by
  refine List.ext_getElem (by simp [hl]) fun i h1 h2 => ?_
  simp at h1 h2
  simp [List.getD_eq_getElem?_getD, List.getElem?_eq_getElem (l := a) (i := i) (by omega), List.getElem?_eq_getElem (l := h) (i := i) (by omega)]
theorem zip3_rng (ha : a.length = h.length) (hb : b.length = h.length) : a.zip (b.zip h) = (List.range h.length).map fun k => (a.getD k 0, b.getD k 0, h.getD k 0) := by
  refine List.ext_getElem (by simp [ha, hb]) fun i h1 h2 => ?_
  simp at h1 h2
  simp [List.getD_eq_getElem?_getD, List.getElem?_eq_getElem (l := a) (i := i) (by omega), List.getElem?_eq_getElem (l := b) (i := i) (by omega), List.getElem?_eq_getElem (l := h) (i := i) (by omega)]
theorem ix_row {k : Nat} (hk : k < a.length) : oIx w (rowD a) (.int (k : Int)) = some (.int (a.getD k 0)) := by
  show atI (a.map Dt.int) (k : Int) = _
  rw [atI_nat (by simpa using hk)]
  simp [List.getD_eq_getElem?_getD, List.getElem?_eq_getElem hk]
theorem ix_sign {k : Nat} (hk : k < h.length) (hh : h.length ≤ 4000) : oIx w (T h) (.int (k : Int)) = some (T [h.getD k 0]) := by
  rw [oIx_T hk (by omega)]
  simp [List.getD_eq_getElem?_getD, List.getElem?_eq_getElem hk]
theorem m__law_cells_eq (hl : a.length = h.length) (hh : h.length ≤ 4000) : m__law_cells [rowD a, T h, T p] w = .dat (rowD (cellsL a h p)) w := by
  have e := gLc_map (vs := [3]) (gi := gIts oRng1 (gCons (gArgs oLen (gCons (gVar 1) gNil)) gNil)) (b := bName 3) (gt := gTst (gBin oIn (gIx (gVar 1) (gVar 3)) (gVar 2))) (ge := gIx (gVar 0) (gVar 3)) (env := [.dat (rowD a), .dat (T h), .dat (T p), .un]) (w := w) (w1 := w)
    (List.range h.length) (fun k : Nat => Dt.int (k : Int)) (fun k => decide (h.getD k 0 ∈ p)) (fun k => .int (a.getD k 0))
    (gIts_ok (ga1 (gArgs_ok (ga1 rfl) (oLen_T (by omega)))) (oRng1_nat _ (by omega)))
    (fun k hk => by
      have hk' : k < h.length := List.mem_range.mp hk
      exact ⟨[.dat (rowD a), .dat (T h), .dat (T p), .dat (.int (k : Int))], rfl, gTst_ok (gBin_ok (gIx_ok (a := T h) rfl rfl (ix_sign hk' hh)) rfl (oIn_T _ p)), fun _ => gIx_ok (a := rowD a) rfl rfl (ix_row (by omega))⟩) (by rw [sz_line]; simp; omega)
  refine runM_ret (sRet_ok (gArgs_ok (ga1 (gFrz_lst e)) ?_))
  rw [oTuple_lst]
  unfold cellsL
  rw [zip_rng hl, List.filter_map, List.map_map]
  simp [rowD, List.map_map, Function.comp_def]
theorem m__law_crossed_eq (ha : a.length = h.length) (hb : b.length = h.length) (hh : h.length ≤ 4000) : m__law_crossed [rowD a, rowD b, T h, T t] w = .dat (rowD (wantedL a b h t)) w := by
  have e := gLc_map (vs := [4]) (gi := gIts oRng1 (gCons (gArgs oLen (gCons (gVar 2) gNil)) gNil)) (b := bName 4) (gt := gYes) (ge := gIfE (gTst (gBin oIn (gIx (gVar 2) (gVar 4)) (gVar 3))) (gIx (gVar 0) (gVar 4)) (gIx (gVar 1) (gVar 4))) (env := [.dat (rowD a), .dat (rowD b), .dat (T h), .dat (T t), .un]) (w := w) (w1 := w)
    (List.range h.length) (fun k : Nat => Dt.int (k : Int)) (fun _ => true) (fun k => .int (if h.getD k 0 ∈ t then a.getD k 0 else b.getD k 0))
    (gIts_ok (ga1 (gArgs_ok (ga1 rfl) (oLen_T (by omega)))) (oRng1_nat _ (by omega)))
    (fun k hk => by
      have hk' : k < h.length := List.mem_range.mp hk
      refine ⟨[.dat (rowD a), .dat (rowD b), .dat (T h), .dat (T t), .dat (.int (k : Int))], rfl, rfl, fun _ => ?_⟩
      have tt : (gTst (gBin oIn (gIx (gVar 2) (gVar 4)) (gVar 3))) [.dat (rowD a), .dat (rowD b), .dat (T h), .dat (T t), .dat (.int (k : Int))] w = .ok (decide (h.getD k 0 ∈ t)) w := gTst_ok (gBin_ok (gIx_ok (a := T h) rfl rfl (ix_sign hk' hh)) rfl (oIn_T _ t))
      by_cases z : h.getD k 0 ∈ t
      · rw [if_pos z]; exact gIfE_t (w1 := w) (tt.trans (by rw [decide_eq_true z])) (gIx_ok (a := rowD a) rfl rfl (ix_row (by omega)))
      · rw [if_neg z]; exact gIfE_f (w1 := w) (tt.trans (by rw [decide_eq_false z])) (gIx_ok (a := rowD b) rfl rfl (ix_row (by omega)))) (by rw [sz_line]; simp; omega)
  rw [filter_tt] at e
  refine runM_ret (sRet_ok (gArgs_ok (ga1 (gFrz_lst e)) ?_))
  rw [oTuple_lst]
  unfold wantedL
  rw [zip3_rng ha hb, List.map_map]
  simp [rowD, List.map_map, Function.comp_def]
theorem oNotIn_rows {x : List Int} {rows : List (List Int)} : oNotIn (rowD x) (.lst (rows.map rowD)) = some (.bl (!decide (x ∈ rows))) := by
  obtain ⟨r, e, hr⟩ := inD_pl (n := 1) (a := rowD x) (ys := rows.map rowD) (pl_row x) fun y hy => by
    obtain ⟨z, _, rfl⟩ := List.mem_map.mp hy
    exact pl_row z
  unfold oNotIn
  rw [e]
  have : r = decide (x ∈ rows) := by
    rw [Bool.eq_iff_iff, hr, decide_eq_true_eq, List.mem_map]
    exact ⟨fun ⟨y, hy, e⟩ => rowD_inj e ▸ hy, fun z => ⟨x, z, rfl⟩⟩
  rw [this]
  rfl
/-! ### the law's clash -/
def hitF (h : Tx) (s : Sy) (rows : List (List Int)) (k j : Nat) : Option Dt :=
  let a := rows.getD k []
  let b := rows.getD j []
  if cellsL a h s.l = cellsL b h s.l then
    if s.tells = true then (if k < j ∧ cellsL a h s.r ≠ cellsL b h s.r then some (.tup [rowD a, rowD b]) else none)
    else (if wantedL a b h (s.l ++ s.r) ∈ rows then none else some (.tup [rowD a, rowD b, rowD (wantedL a b h (s.l ++ s.r))]))
  else none
def hitsF (h : Tx) (s : Sy) (rows : List (List Int)) (k : Nat) : Option Dt := (List.range rows.length).findSome? (hitF h s rows k)
def clashF (h : Tx) (s : Sy) (rows : List (List Int)) : Option Dt := (List.range rows.length).findSome? (hitsF h s rows)
abbrev CE (R : Dt) (h : Tx) (s : Sy) (k6 k7 k8 k9 k10 k11 : Sl) : Dn.Env := [.dat R, .dat (T h), .dat s.d, .dat (T s.word), .dat (T s.l), .dat (T s.r), k6, k7, k8, k9, k10, k11]
theorem hit_body {s : Sy} {rows : List (List Int)} {k j : Nat} {k8 k9 k10 k11 : Sl} (hr : ∀ x ∈ rows, x.length = h.length) (hh : h.length ≤ 4000) (hl : s.l.length ≤ 1000) (hr' : s.r.length ≤ 1000) (hk : k < rows.length) (hj : j < rows.length) :
    match hitF h s rows k j with
      | some d => b__law_clash_0 (CE (.lst (rows.map rowD)) h s (.dat (.int (k : Int))) (.dat (.int (j : Int))) k8 k9 k10 k11) w = .ret d w
      | none => ∃ e2, b__law_clash_0 (CE (.lst (rows.map rowD)) h s (.dat (.int (k : Int))) (.dat (.int (j : Int))) k8 k9 k10 k11) w = .nx e2 w ∧ ∃ k8 k9 k10 k11, e2 = CE (.lst (rows.map rowD)) h s (.dat (.int (k : Int))) (.dat (.int (j : Int))) k8 k9 k10 k11 := by
  let a := rows[k]
  let b := rows[j]
  have ea : rows.getD k [] = a := by simp [a, List.getD_eq_getElem?_getD, List.getElem?_eq_getElem hk]
  have eb : rows.getD j [] = b := by simp [b, List.getD_eq_getElem?_getD, List.getElem?_eq_getElem hj]
  have la : a.length = h.length := hr a (List.getElem_mem hk)
  have lb : b.length = h.length := hr b (List.getElem_mem hj)
  let E (k8 k9 k10 k11 : Sl) := CE (.lst (rows.map rowD)) h s (.dat (.int (k : Int))) (.dat (.int (j : Int))) k8 k9 k10 k11
  have s8 : sSet 8 (gIx (gVar 0) (gVar 6)) (E k8 k9 k10 k11) w = .nx (E (.dat (rowD a)) k9 k10 k11) w := sSet_ok (hi := by show 8 < 12; decide) (gIx_ok (a := .lst (rows.map rowD)) (w1 := w) rfl rfl (ix_map hk))
  have s9 : sSet 9 (gIx (gVar 0) (gVar 7)) (E (.dat (rowD a)) k9 k10 k11) w = .nx (E (.dat (rowD a)) (.dat (rowD b)) k10 k11) w := sSet_ok (hi := by show 9 < 12; decide) (gIx_ok (a := .lst (rows.map rowD)) (w1 := w) rfl rfl (ix_map hj))
  have t0 : (gTst (gBin oEq (gCall 3 [] m__law_cells (gCons (gVar 8) (gCons (gVar 1) (gCons (gVar 4) gNil)))) (gCall 3 [] m__law_cells (gCons (gVar 9) (gCons (gVar 1) (gCons (gVar 4) gNil)))))) (E (.dat (rowD a)) (.dat (rowD b)) k10 k11) w = .ok (decide (cellsL a h s.l = cellsL b h s.l)) w :=
    gTst_ok (gBin_ok (w1 := w) (w2 := w) (gCall_dat (ga3 (d := rowD a) (d' := T h) (d'' := T s.l) rfl rfl rfl) (m__law_cells_eq la hh)) (gCall_dat (ga3 (d := rowD b) (d' := T h) (d'' := T s.l) rfl rfl rfl) (m__law_cells_eq lb hh)) (oEq_row _ _))
  unfold hitF
  simp only [ea, eb]
  by_cases c0 : cellsL a h s.l = cellsL b h s.l
  · rw [if_pos c0]
    let u : Bool := !decide (cellsL a h s.r = cellsL b h s.r)
    have s10 : sSet 10 (gBin oNe (gCall 3 [] m__law_cells (gCons (gVar 8) (gCons (gVar 1) (gCons (gVar 5) gNil)))) (gCall 3 [] m__law_cells (gCons (gVar 9) (gCons (gVar 1) (gCons (gVar 5) gNil))))) (E (.dat (rowD a)) (.dat (rowD b)) k10 k11) w = .nx (E (.dat (rowD a)) (.dat (rowD b)) (.dat (.bl u)) k11) w :=
      sSet_ok (hi := by show 10 < 12; decide) (gBin_ok (w1 := w) (w2 := w) (gCall_dat (ga3 (d := rowD a) (d' := T h) (d'' := T s.r) rfl rfl rfl) (m__law_cells_eq la hh)) (gCall_dat (ga3 (d := rowD b) (d' := T h) (d'' := T s.r) rfl rfl rfl) (m__law_cells_eq lb hh)) (oNe_row _ _))
    let E10 (k11 : Sl) := E (.dat (rowD a)) (.dat (rowD b)) (.dat (.bl u)) k11
    have t1 : (gAnd (gTst (gBin oEq (gVar 3) (gOk (.str "tells")))) (gAnd (gTst (gBin oGt (gVar 7) (gVar 6))) (gTst (gVar 10)))) (E10 k11) w = .ok (s.tells && (decide ((k : Int) < (j : Int)) && u)) w :=
      gAnd_ok (gTst_ok (gBin_ok (a := T s.word) rfl rfl s.eq_tells)) (gAnd_ok (gTst_ok (gBin_ok (a := .int (j : Int)) (b := .int (k : Int)) rfl rfl (oGt_int _ _))) (gTst_ok (b := u) rfl))
    let m := wantedL a b h (s.l ++ s.r)
    have s11 : sSet 11 (gCall 4 [] m__law_crossed (gCons (gVar 8) (gCons (gVar 9) (gCons (gVar 1) (gCons (gBin oAdd (gVar 4) (gVar 5)) gNil))))) (E10 k11) w = .nx (E10 (.dat (rowD m))) w :=
      sSet_ok (hi := by show 11 < 12; decide) (gCall_dat (gaC (d := rowD a) (w1 := w) rfl (gaC (d := rowD b) (w1 := w) rfl (gaC (d := T h) (w1 := w) rfl (gaC (gBin_ok (a := T s.l) (b := T s.r) rfl rfl (oAdd_T (by omega))) gaN)))) (m__law_crossed_eq la lb hh))
    have t2 : (gAnd (gTst (gBin oEq (gVar 3) (gOk (.str "parts")))) (gTst (gBin oNotIn (gVar 11) (gVar 0)))) (E10 (.dat (rowD m))) w = .ok ((!s.tells) && !decide (m ∈ rows)) w :=
      gAnd_ok (gTst_ok (gBin_ok (a := T s.word) rfl rfl s.eq_parts)) (gTst_ok (gBin_ok (a := rowD m) (b := .lst (rows.map rowD)) rfl rfl oNotIn_rows))
    have front : ∀ {o : OutS} {g : GS}, g (E10 k11) w = o → sSeq (sSet 8 (gIx (gVar 0) (gVar 6))) (sSeq (sSet 9 (gIx (gVar 0) (gVar 7))) (sIf (gTst (gBin oEq (gCall 3 [] m__law_cells (gCons (gVar 8) (gCons (gVar 1) (gCons (gVar 4) gNil)))) (gCall 3 [] m__law_cells (gCons (gVar 9) (gCons (gVar 1) (gCons (gVar 4) gNil)))))) (sSeq (sSet 10 (gBin oNe (gCall 3 [] m__law_cells (gCons (gVar 8) (gCons (gVar 1) (gCons (gVar 5) gNil)))) (gCall 3 [] m__law_cells (gCons (gVar 9) (gCons (gVar 1) (gCons (gVar 5) gNil)))))) g) sSkip)) (E k8 k9 k10 k11) w = o := fun hg =>
      sSeq_nx s8 (sSeq_nx s9 (sIf_t (w1 := w) (t0.trans (by rw [decide_eq_true c0])) (sSeq_nx s10 hg)))
    cases ct : s.tells with
    | true =>
      rw [if_pos rfl]
      by_cases c1 : k < j ∧ cellsL a h s.r ≠ cellsL b h s.r
      · rw [if_pos c1]
        refine front (sSeq_ret (sIf_t (w1 := w) (t1.trans ?_) (sRet_ok (gTup_ok (ga2 (d := rowD a) (d' := rowD b) rfl rfl) (by simp)))))
        rw [ct]
        simp [u, c1.1, c1.2]
      · rw [if_neg c1]
        refine ⟨E10 (.dat (rowD m)), front (sSeq_nx (sIf_f (w1 := w) (t1.trans ?_) rfl) (sSeq_nx s11 (sIf_f (w1 := w) (t2.trans (by rw [ct]; rfl)) rfl))), _, _, _, _, rfl⟩
        rw [ct]
        simp only [u, Bool.true_and]
        congr 1
        rw [Bool.eq_false_iff]
        intro z
        simp only [Bool.and_eq_true, decide_eq_true_eq, Bool.not_eq_true', decide_eq_false_iff_not] at z
        exact c1 ⟨by omega, z.2⟩
    | false =>
      rw [if_neg Bool.false_ne_true]
      have f1 : sIf (gAnd (gTst (gBin oEq (gVar 3) (gOk (.str "tells")))) (gAnd (gTst (gBin oGt (gVar 7) (gVar 6))) (gTst (gVar 10)))) (sRet (gTup (gCons (gVar 8) (gCons (gVar 9) gNil)))) sSkip (E10 k11) w = .nx (E10 k11) w := sIf_f (w1 := w) (t1.trans (by rw [ct]; rfl)) rfl
      by_cases c1 : m ∈ rows
      · rw [if_pos c1]
        exact ⟨E10 (.dat (rowD m)), front (sSeq_nx f1 (sSeq_nx s11 (sIf_f (w1 := w) (t2.trans (by rw [ct, decide_eq_true c1]; rfl)) rfl))), _, _, _, _, rfl⟩
      · rw [if_neg c1]
        exact front (sSeq_nx f1 (sSeq_nx s11 (sIf_t (w1 := w) (t2.trans (by rw [ct, decide_eq_false c1]; rfl)) (sRet_ok (gTup_ok (ga3 (d := rowD a) (d' := rowD b) (d'' := rowD m) rfl rfl rfl) (by simp))))))
  · rw [if_neg c0]
    exact ⟨_, sSeq_nx s8 (sSeq_nx s9 (sIf_f (w1 := w) (t0.trans (by rw [decide_eq_false c0])) rfl)), _, _, _, _, rfl⟩
def optD : Option Dt → Dt
  | some d => d
  | none => .non
theorem m__law_clash_eq {s : Sy} {rows : List (List Int)} (hr : ∀ x ∈ rows, x.length = h.length) (hh : h.length ≤ 4000) (hl : s.l.length ≤ 1000) (hr' : s.r.length ≤ 1000) (hn : rows.length ≤ 4000) : m__law_clash [.lst (rows.map rowD), T h, s.d] w = .dat (optD (clashF h s rows)) w := by
  have rng : ∀ {k6 k7 k8 k9 k10 k11 : Sl}, (gIts oRng1 (gCons (gArgs oLen (gCons (gVar 0) gNil)) gNil)) (CE (.lst (rows.map rowD)) h s k6 k7 k8 k9 k10 k11) w = .ok ((List.range rows.length).map fun k : Nat => Dt.int (k : Int)) w := by
    intro k6 k7 k8 k9 k10 k11
    exact gIts_ok (ga1 (gArgs_ok (ga1 (d := .lst (rows.map rowD)) rfl) ((oLen_lst (by rw [List.length_map]; omega)).trans (by rw [List.length_map])))) (oRng1_nat _ (by omega))
  have inner : ∀ (k : Nat), k < rows.length → ∀ {k7 k8 k9 k10 k11 : Sl}, match hitsF h s rows k with
      | some d => b__law_clash_1 (CE (.lst (rows.map rowD)) h s (.dat (.int (k : Int))) k7 k8 k9 k10 k11) w = .ret d w
      | none => ∃ e2, b__law_clash_1 (CE (.lst (rows.map rowD)) h s (.dat (.int (k : Int))) k7 k8 k9 k10 k11) w = .nx e2 w ∧ ∃ k6 k7 k8 k9 k10 k11, e2 = CE (.lst (rows.map rowD)) h s k6 k7 k8 k9 k10 k11 := by
    intro k hk k7 k8 k9 k10 k11
    have f := forG_first (b := bName 7) (body := b__law_clash_0) (fun env => ∃ k7 k8 k9 k10 k11, env = CE (.lst (rows.map rowD)) h s (.dat (.int (k : Int))) k7 k8 k9 k10 k11) (hitF h s rows k) (fun j : Nat => Dt.int (j : Int)) (w := w) (List.range rows.length) (fun j hj env hI => by
      obtain ⟨k7, k8, k9, k10, k11, rfl⟩ := hI
      have hj' := List.mem_range.mp hj
      refine ⟨CE (.lst (rows.map rowD)) h s (.dat (.int (k : Int))) (.dat (.int (j : Int))) k8 k9 k10 k11, rfl, ?_⟩
      have hb := hit_body (w := w) (k8 := k8) (k9 := k9) (k10 := k10) (k11 := k11) hr hh hl hr' hk hj'
      cases e : hitF h s rows k j with
      | some d => rw [e] at hb; exact hb
      | none =>
        rw [e] at hb
        obtain ⟨e2, h1, k8', k9', k10', k11', h2⟩ := hb
        exact ⟨e2, h1, _, k8', k9', k10', k11', h2⟩) (env := CE (.lst (rows.map rowD)) h s (.dat (.int (k : Int))) k7 k8 k9 k10 k11) ⟨_, _, _, _, _, rfl⟩
    unfold hitsF
    cases e : (List.range rows.length).findSome? (hitF h s rows k) with
    | some d => rw [e] at f; exact sFor_ok rng f
    | none =>
      rw [e] at f
      obtain ⟨e2, h1, k7', k8', k9', k10', k11', h2⟩ := f
      exact ⟨e2, sFor_ok rng h1, _, k7', k8', k9', k10', k11', h2⟩
  have f := forG_first (b := bName 6) (body := b__law_clash_1) (fun env => ∃ k6 k7 k8 k9 k10 k11, env = CE (.lst (rows.map rowD)) h s k6 k7 k8 k9 k10 k11) (hitsF h s rows) (fun j : Nat => Dt.int (j : Int)) (w := w) (List.range rows.length) (fun k hk env hI => by
    obtain ⟨k6, k7, k8, k9, k10, k11, rfl⟩ := hI
    have hk' := List.mem_range.mp hk
    refine ⟨CE (.lst (rows.map rowD)) h s (.dat (.int (k : Int))) k7 k8 k9 k10 k11, rfl, ?_⟩
    have hb := inner k hk' (k7 := k7) (k8 := k8) (k9 := k9) (k10 := k10) (k11 := k11)
    cases e : hitsF h s rows k with
    | some d => rw [e] at hb; exact hb
    | none => rw [e] at hb; exact hb) (env := CE (.lst (rows.map rowD)) h s .un .un .un .un .un .un) ⟨_, _, _, _, _, _, rfl⟩
  have h0 : sAsg (bTup (bCons (bName 3) (bCons (bName 4) (bCons (bName 5) bNil)))) (gVar 2) [.dat (.lst (rows.map rowD)), .dat (T h), .dat s.d, .un, .un, .un, .un, .un, .un, .un, .un, .un] w = .nx (CE (.lst (rows.map rowD)) h s .un .un .un .un .un .un) w := rfl
  unfold clashF
  cases e : (List.range rows.length).findSome? (hitsF h s rows) with
  | some d =>
    rw [e] at f
    exact runM_ret (sSeq_nx h0 (sSeq_ret (sFor_ok rng f)))
  | none =>
    rw [e] at f
    obtain ⟨e2, h1, k6, k7, k8, k9, k10, k11, h2⟩ := f
    exact runM_ret (sSeq_nx h0 (sSeq_nx (sFor_ok rng h1) rfl))
end
end Mi
end
section
/-! What a table keeps, place by place; program and law alike; the finest sets that a table parts. -/
namespace Mi
open PySem L2 Dn
open PyProof.Rows
open PySem.W (AllAlike Sortable dataLe alike alikeAll)
section
variable {h p l r t X Y : Tx} {a b c : List Int} {S rows : List (List Int)}
/-! ### place by place -/
theorem agree_iff (ha : a.length = h.length) (hb : b.length = h.length) : cellsL a h p = cellsL b h p ↔ ∀ k, k < h.length → h.getD k 0 ∈ p → a.getD k 0 = b.getD k 0 := by
  unfold cellsL
  rw [zip_rng ha, zip_rng hb, List.filter_map, List.filter_map, List.map_map, List.map_map]
  have e : ((fun q : Int × Nat => decide (q.2 ∈ p)) ∘ fun k => (a.getD k 0, h.getD k 0)) = ((fun q : Int × Nat => decide (q.2 ∈ p)) ∘ fun k => (b.getD k 0, h.getD k 0)) := rfl
  rw [e, List.map_inj_left]
  constructor
  · intro z k hk hp
    exact z k (List.mem_filter.mpr ⟨List.mem_range.mpr hk, by simpa using hp⟩)
  · intro z k hk
    obtain ⟨h1, h2⟩ := List.mem_filter.mp hk
    exact z k (List.mem_range.mp h1) (by simpa using h2)
theorem wanted_len (ha : a.length = h.length) (hb : b.length = h.length) : (wantedL a b h t).length = h.length := by
  unfold wantedL
  simp [ha, hb]
theorem wanted_get (ha : a.length = h.length) (hb : b.length = h.length) {k : Nat} (hk : k < h.length) : (wantedL a b h t).getD k 0 = if h.getD k 0 ∈ t then a.getD k 0 else b.getD k 0 := by
  unfold wantedL
  rw [zip3_rng ha hb, List.map_map]
  simp [List.getD_eq_getElem?_getD, List.getElem?_range hk]
theorem row_ext (ha : a.length = h.length) (hb : b.length = h.length) (e : ∀ k, k < h.length → a.getD k 0 = b.getD k 0) : a = b := by
  refine List.ext_getElem (ha.trans hb.symm) fun k h1 h2 => ?_
  have := e k (by omega)
  simpa [List.getD_eq_getElem?_getD, List.getElem?_eq_getElem h1, List.getElem?_eq_getElem h2] using this
theorem wanted_congr (ht : ∀ c, c ∈ X ↔ c ∈ Y) : wantedL a b h X = wantedL a b h Y := by
  unfold wantedL
  refine List.map_congr_left fun q _ => ?_
  simp only [ht]
/-! ### kept -/
def keptT (h l r : Tx) (S : List (List Int)) : Prop := ∀ a ∈ S, ∀ b ∈ S, cellsL a h l = cellsL b h l → cellsL a h r = cellsL b h r
def keptP (h l X : Tx) (S : List (List Int)) : Prop := ∀ a ∈ S, ∀ b ∈ S, cellsL a h l = cellsL b h l → wantedL a b h (l ++ X) ∈ S
def kept (h : Tx) (s : Sy) (S : List (List Int)) : Prop := if s.tells = true then keptT h s.l s.r S else keptP h s.l s.r S
theorem law_none {s : Sy} : clashF h s rows = none ↔ kept h s rows := by
  unfold clashF
  rw [List.findSome?_eq_none_iff]
  have gd : ∀ {k : Nat} (hk : k < rows.length), rows.getD k [] = rows[k] := fun hk => by simp [List.getD_eq_getElem?_getD, List.getElem?_eq_getElem hk]
  have e1 : (∀ k ∈ List.range rows.length, hitsF h s rows k = none) ↔ ∀ k, k < rows.length → ∀ j, j < rows.length → hitF h s rows k j = none := by
    constructor
    · intro z k hk j hj
      have := z k (List.mem_range.mpr hk)
      unfold hitsF at this
      exact List.findSome?_eq_none_iff.mp this j (List.mem_range.mpr hj)
    · intro z k hk
      unfold hitsF
      exact List.findSome?_eq_none_iff.mpr fun j hj => z k (List.mem_range.mp hk) j (List.mem_range.mp hj)
  rw [e1]
  unfold kept
  cases ct : s.tells with
  | true =>
    rw [if_pos rfl]
    constructor
    · intro z a ha b hb q
      obtain ⟨k, hk, rfl⟩ := List.mem_iff_getElem.mp ha
      obtain ⟨j, hj, rfl⟩ := List.mem_iff_getElem.mp hb
      rcases Nat.lt_trichotomy k j with lt | eq | gt
      · have := z k hk j hj
        unfold hitF at this
        simp only [gd hk, gd hj, ct, if_pos q] at this
        by_cases c : cellsL rows[k] h s.r = cellsL rows[j] h s.r
        · exact c
        · rw [if_true, if_pos ⟨lt, c⟩] at this
          cases this
      · subst eq; rfl
      · have := z j hj k hk
        unfold hitF at this
        simp only [gd hk, gd hj, ct, if_pos q.symm] at this
        by_cases c : cellsL rows[j] h s.r = cellsL rows[k] h s.r
        · exact c.symm
        · rw [if_true, if_pos ⟨gt, c⟩] at this
          cases this
    · intro z k hk j hj
      unfold hitF
      simp only [gd hk, gd hj, ct]
      by_cases q : cellsL rows[k] h s.l = cellsL rows[j] h s.l
      · rw [if_pos q, if_true, if_neg fun c => c.2 (z _ (List.getElem_mem hk) _ (List.getElem_mem hj) q)]
      · rw [if_neg q]
  | false =>
    rw [if_neg Bool.false_ne_true]
    constructor
    · intro z a ha b hb q
      obtain ⟨k, hk, rfl⟩ := List.mem_iff_getElem.mp ha
      obtain ⟨j, hj, rfl⟩ := List.mem_iff_getElem.mp hb
      have := z k hk j hj
      unfold hitF at this
      simp only [gd hk, gd hj, ct, if_pos q] at this
      by_cases c : wantedL rows[k] rows[j] h (s.l ++ s.r) ∈ rows
      · exact c
      · rw [if_neg (by simp), if_neg c] at this
        cases this
    · intro z k hk j hj
      unfold hitF
      simp only [gd hk, gd hj, ct]
      by_cases q : cellsL rows[k] h s.l = cellsL rows[j] h s.l
      · rw [if_pos q, if_neg (by simp), if_pos (z _ (List.getElem_mem hk) _ (List.getElem_mem hj) q)]
      · rw [if_neg q]
theorem clashT_of : ∀ {rows : List (List Int)}, (∀ a ∈ rows, ∀ b ∈ rows, badT h l r a b = false) → clashT h l r rows = none
  | [], _ => rfl
  | x :: rest, z => by
    unfold clashT
    have : rest.find? (badT h l r x) = none := List.find?_eq_none.mpr fun y hy => by rw [z x List.mem_cons_self y (List.mem_cons_of_mem _ hy)]; simp
    rw [this]
    exact clashT_of fun a ha b hb => z a (List.mem_cons_of_mem _ ha) b (List.mem_cons_of_mem _ hb)
theorem agree_rest (ha : a.length = h.length) (hb : b.length = h.length) (q : cellsL a h l = cellsL b h l) : cellsL a h (withoutL r l) = cellsL b h (withoutL r l) ↔ cellsL a h r = cellsL b h r := by
  rw [agree_iff ha hb, agree_iff ha hb]
  have q := (agree_iff ha hb).mp q
  constructor
  · intro z k hk hr
    by_cases c : h.getD k 0 ∈ l
    · exact q k hk c
    · exact z k hk (mem_withoutL.mpr ⟨hr, c⟩)
  · intro z k hk hr
    exact z k hk (mem_withoutL.mp hr).1
theorem keeps_iff {s : Sy} (hr : ∀ x ∈ rows, x.length = h.length) : keepsB h s rows = true ↔ kept h s rows := by
  unfold keepsB kept
  cases ct : s.tells with
  | true =>
    rw [if_pos rfl, if_pos rfl, Option.isNone_iff_eq_none]
    constructor
    · intro z a ha b hb q
      by_cases e : a = b
      · rw [e]
      · have := clashT_none z a ha b hb e
        unfold badT at this
        rw [decide_eq_true q, Bool.true_and, Bool.not_eq_false', decide_eq_true_eq] at this
        exact (agree_rest (hr a ha) (hr b hb) q).mp this
    · intro z
      refine clashT_of fun a ha b hb => ?_
      unfold badT
      by_cases q : cellsL a h s.l = cellsL b h s.l
      · rw [decide_eq_true q, Bool.true_and, Bool.not_eq_false', decide_eq_true_eq]
        exact (agree_rest (hr a ha) (hr b hb) q).mpr (z a ha b hb q)
      · rw [decide_eq_false q, Bool.false_and]
  | false =>
    rw [if_neg Bool.false_ne_true, if_neg Bool.false_ne_true, Option.isNone_iff_eq_none, clashP_none]
    have w : ∀ {a b : List Int}, wantedL a b h (unionL s.l s.r) = wantedL a b h (s.l ++ s.r) := fun {a b} => wanted_congr fun c => by rw [mem_unionL, List.mem_append]
    constructor
    · intro z a ha b hb q
      have := z a ha b hb
      unfold badP at this
      rw [decide_eq_true q, Bool.true_and, Bool.not_eq_false', decide_eq_true_eq, w] at this
      exact this
    · intro z a ha b hb
      unfold badP
      by_cases q : cellsL a h s.l = cellsL b h s.l
      · rw [decide_eq_true q, Bool.true_and, Bool.not_eq_false', decide_eq_true_eq, w]
        exact z a ha b hb q
      · rw [decide_eq_false q, Bool.false_and]
/-! ### what is parted: closed under rest and meet -/
/-! ### shorter ones first -/
/-! ### least ones -/
end
end Mi
end
section
/-! The finest sets that a table parts. -/
namespace Mi
open PySem L2 Dn
end Mi
end
section
/-! What is read off tables: program and law. -/
namespace Mi
open PySem L2 Dn
section
variable {h l : Tx} {rs S : List (List Int)} {dd : Dt} {w : Ds}
/-! ### tables handed as a list or a tuple -/
theorem m__law_rising_eq (ok : okRows rs = true) : m__law_rising [.lst (rs.map rowD)] w = .own (.lst ((sortRows rs).map rowD)) w := by
  have hl : rs.length ≤ sizeLine := by unfold okRows at ok; simp only [Bool.and_eq_true, decide_eq_true_eq] at ok; exact ok.2
  have e := gLc_map (vs := [1]) (gi := gIt srcD (gVar 0)) (b := bName 1) (gt := gYes) (ge := gArgs oTuple (gCons (gVar 1) gNil)) (env := [.dat (.lst (rs.map rowD)), .un]) (w := w) (w1 := w) rs rowD (fun _ => true) rowD (gIt_ok (d := .lst (rs.map rowD)) rfl rfl)
    (fun r hr => ⟨[.dat (.lst (rs.map rowD)), .dat (rowD r)], rfl, rfl, fun _ => gArgs_ok (ga1 rfl) (oTuple_row r)⟩) hl
  rw [filter_tt] at e
  exact runM_rtf (sRetF_ok (gArgsF_ok (ga1 (gFrz_lst e)) (oSrtT_rows ok)))
/-! ### the law's look -/
theorem hit_tup {s : Sy} {k j : Nat} {d : Dt} (e : hitF h s S k j = some d) : isNon d = false := by
  unfold hitF at e
  simp only at e
  split at e
  · split at e
    · split at e
      · cases e; rfl
      · cases e
    · split at e
      · cases e
      · cases e; rfl
  · cases e
theorem law_is {s : Sy} (hr : ∀ x ∈ S, x.length = h.length) : oIs (optD (clashF h s S)) .non = some (.bl (keepsB h s S)) := by
  show some (Dt.bl (isNon (optD (clashF h s S)))) = _
  have e1 := law_none (h := h) (s := s) (rows := S)
  have e2 := keeps_iff (h := h) (s := s) (rows := S) hr
  cases c : clashF h s S with
  | none =>
    rw [e2.mpr (e1.mp c)]
    rfl
  | some d =>
    have : keepsB h s S = false := by
      cases q : keepsB h s S with
      | false => rfl
      | true => rw [e1.mpr (e2.mp q)] at c; cases c
    rw [this]
    unfold clashF at c
    obtain ⟨k, _, hk⟩ := List.exists_of_findSome?_eq_some c
    unfold hitsF at hk
    obtain ⟨j, _, hj⟩ := List.exists_of_findSome?_eq_some hk
    show some (Dt.bl (isNon d)) = _
    rw [hit_tup hj]
/-! ### what least sets tell -/
theorem rest_len (H : Hd h) {p : Tx} : (withoutL h p).length ≤ 6 := by
  have := (List.filter_sublist (l := h) (p := fun c => !decide (c ∈ p))).length_le
  have := H.hi
  unfold withoutL
  omega
/-! ### the finest sets -/
/-! ### signs in order -/
end
end Mi
end
section
/-! Tables against what does not follow (k17): one row for each union of free blocks. -/
namespace Mi
open PySem L2 Dn
section
variable {h l : Tx} {ss : List Say} {P : List Tx} {S : List (List Int)}
/-- the row of some blocks -/
def rowU (h : Tx) (M : List Tx) : List Int := h.map fun c => if c ∈ M.flatten then 1 else 0
theorem rowU_len {M : List Tx} : (rowU h M).length = h.length := by simp [rowU]
theorem rowU_get {M : List Tx} {k : Nat} (hk : k < h.length) : (rowU h M).getD k 0 = if h.getD k 0 ∈ M.flatten then 1 else 0 := by
  unfold rowU
  simp [List.getD_eq_getElem?_getD, List.getElem?_eq_getElem hk]
def freeL (ss : List Say) (l : Tx) (P : List Tx) : List Tx := P.filter fun b => !withinL b (toldL ss l P)
theorem one_iff {p q : Prop} [Decidable p] [Decidable q] : ((if p then (1 : Int) else 0) = if q then 1 else 0) ↔ (p ↔ q) := by
  by_cases a : p <;> by_cases b : q <;> simp [a, b]
/-- a table of these rows -/
def TblU (h : Tx) (F : List Tx) (S : List (List Int)) : Prop := ∀ r, r ∈ S ↔ ∃ M : List Tx, (∀ x ∈ M, x ∈ F) ∧ r = rowU h M
variable (H : Hd h) (ok : ∀ s ∈ ss, SayH h s) (p : Part (withoutL h l) P) (st : Stable (waysL ss) P)
include H ok p st
theorem free_in {b : Tx} (hb : b ∈ freeL ss l P) : b ∈ P ∧ ∃ c ∈ b, c ∉ toldL ss l P := by
  obtain ⟨h1, h2⟩ := List.mem_filter.mp hb
  refine ⟨h1, ?_⟩
  have : withinL b (toldL ss l P) = false := by simpa using h2
  exact withinL_not this
/-- a free block that a telling saying's right side meets, its left side meets -/
theorem free_tells {s : Say} {b : Tx} {c : Nat} (hs : s ∈ ss) (hw : s.w = tellsT) (hb : b ∈ freeL ss l P) (cb : c ∈ b) (cr : c ∈ s.r) : commonL b s.l ≠ [] := fun e => by
  obtain ⟨bP, d, db, dt⟩ := free_in H ok p st hb
  have way : (s.l, [c]) ∈ waysL ss := mem_waysL.mpr ⟨s, hs, by
    unfold waysOf
    rw [if_pos hw]
    exact List.mem_map.mpr ⟨c, cr, rfl⟩⟩
  have nc := st _ way b bP
  have cm : c ∈ commonL b [c] := mem_commonL.mpr ⟨cb, List.mem_singleton.mpr rfl⟩
  have full : commonL b [c] = b := Classical.byContradiction fun z => by
    have := (cutB_iff (b := b) (w := (s.l, [c]))).mpr ⟨e, (fun q => by rw [q] at cm; cases cm), z⟩
    rw [nc] at this; cases this
  have all : ∀ d ∈ b, d = c := fun d hd => by
    rw [← full] at hd
    exact List.mem_singleton.mp (mem_commonL.mp hd).2
  have rb : Ris b := H.ris.sublist ((p.sub b bP).trans List.filter_sublist)
  have be : b = [c] := ris_single rb (p.ne b bP) all
  have cl : c ∉ s.l := fun z => by
    have : c ∈ commonL b s.l := mem_commonL.mpr ⟨cb, z⟩
    rw [e] at this; cases this
  rw [all d db] at dt
  exact dt (mem_told.mpr (.inr ⟨be ▸ bP, s, hs, hw, cr, cl⟩))
theorem block_parts' {s : Say} {b : Tx} (hs : s ∈ ss) (hw : s.w ≠ tellsT) (bP : b ∈ P) (e : commonL b s.l = []) : commonL b s.r = [] ∨ commonL b s.r = b := by
  have way : (s.l, s.r) ∈ waysL ss := mem_waysL.mpr ⟨s, hs, by
    unfold waysOf
    rw [if_neg hw]
    exact List.mem_singleton.mpr rfl⟩
  have nc := st _ way b bP
  by_cases z : commonL b s.r = []
  · exact .inl z
  · refine .inr (Classical.byContradiction fun y => ?_)
    have := (cutB_iff (b := b) (w := (s.l, s.r))).mpr ⟨e, z, y⟩
    rw [nc] at this; cases this
theorem free_one {x y : Tx} {c : Nat} (hx : x ∈ freeL ss l P) (hy : y ∈ freeL ss l P) (cx : c ∈ x) (cy : c ∈ y) : x = y :=
  pair_mem p.dis (free_in H ok p st hx).1 (free_in H ok p st hy).1 cx cy
theorem flat_free {M : List Tx} (hM : ∀ x ∈ M, x ∈ freeL ss l P) {x : Tx} {c : Nat} (hx : x ∈ freeL ss l P) (cx : c ∈ x) : c ∈ M.flatten ↔ x ∈ M := by
  constructor
  · intro m
    obtain ⟨y, hy, cy⟩ := List.mem_flatten.mp m
    rw [free_one H ok p st hx (hM y hy) cx cy]
    exact hy
  · exact fun m => List.mem_flatten.mpr ⟨x, m, cx⟩
theorem free_off {x : Tx} {c : Nat} (hx : x ∈ freeL ss l P) (cx : c ∈ x) : c ∈ h ∧ c ∉ l := mem_withoutL.mp ((p.sub x (free_in H ok p st hx).1).subset cx)
theorem agree_U {M N : List Tx} {q : Tx} : cellsL (rowU h M) h q = cellsL (rowU h N) h q ↔ ∀ c ∈ h, c ∈ q → (c ∈ M.flatten ↔ c ∈ N.flatten) := by
  rw [agree_iff rowU_len rowU_len]
  constructor
  · intro z c hc cq
    obtain ⟨k, hk, rfl⟩ := List.mem_iff_getElem.mp hc
    have e : h.getD k 0 = h[k] := by rw [List.getD_eq_getElem?_getD, List.getElem?_eq_getElem hk]; rfl
    have := z k hk (by rw [e]; exact cq)
    rw [rowU_get hk, rowU_get hk, e] at this
    exact one_iff.mp this
  · intro z k hk kq
    have e : h.getD k 0 ∈ h := by rw [List.getD_eq_getElem?_getD, List.getElem?_eq_getElem hk]; exact List.getElem_mem hk
    rw [rowU_get hk, rowU_get hk]
    exact one_iff.mpr (z _ e kq)
/-- the table keeps what the book says -/
theorem against_keeps (t : TblU h (freeL ss l P) S) {s : Say} (hs : s ∈ ss) : kept h (syOf s) S := by
  have sh := ok s hs
  unfold kept
  by_cases hw : s.w = tellsT
  · have et : (syOf s).tells = true := by simp [syOf, hw]
    rw [if_pos et]
    intro a ha b hb q
    obtain ⟨M, hM, rfl⟩ := (t a).mp ha
    obtain ⟨N, hN, rfl⟩ := (t b).mp hb
    have q := (agree_U H ok p st).mp q
    have half : ∀ {M N : List Tx}, (∀ x ∈ M, x ∈ freeL ss l P) → (∀ x ∈ N, x ∈ freeL ss l P) → (∀ c ∈ h, c ∈ s.l → (c ∈ M.flatten ↔ c ∈ N.flatten)) → ∀ c, c ∈ s.r → c ∈ M.flatten → c ∈ N.flatten := fun {M N} hM hN q c cr m => by
      obtain ⟨x, hx, cx⟩ := List.mem_flatten.mp m
      have xf := hM x hx
      have ne := free_tells H ok p st hs hw xf cx cr
      obtain ⟨d, hd⟩ := List.exists_mem_of_ne_nil _ ne
      obtain ⟨dx, dl⟩ := mem_commonL.mp hd
      have dh := (free_off H ok p st xf dx).1
      have := (q d dh dl).mp (List.mem_flatten.mpr ⟨x, hx, dx⟩)
      exact (flat_free H ok p st hN xf cx).mpr ((flat_free H ok p st hN xf dx).mp this)
    exact (agree_U H ok p st).mpr fun c hc cr => ⟨half hM hN q c cr, half hN hM (fun c hc cl => (q c hc cl).symm) c cr⟩
  · have et : (syOf s).tells = false := by simp [syOf, hw]
    rw [if_neg (by rw [et]; simp)]
    intro a ha b hb q
    obtain ⟨M, hM, rfl⟩ := (t a).mp ha
    obtain ⟨N, hN, rfl⟩ := (t b).mp hb
    have q := (agree_U H ok p st).mp q
    let off : Tx → Bool := fun x => decide (commonL x s.l = []) && decide (commonL x s.r = [])
    refine (t _).mpr ⟨(M.filter fun x => !off x) ++ N.filter off, fun x hx => ?_, ?_⟩
    · rcases List.mem_append.mp hx with z | z
      · exact hM x (List.mem_filter.mp z).1
      · exact hN x (List.mem_filter.mp z).1
    · refine row_ext (wanted_len rowU_len rowU_len) rowU_len fun k hk => ?_
      rw [wanted_get rowU_len rowU_len hk, rowU_get hk, rowU_get hk, rowU_get hk]
      generalize hc : h.getD k 0 = c
      have ch : c ∈ h := by rw [← hc, List.getD_eq_getElem?_getD, List.getElem?_eq_getElem hk]; exact List.getElem_mem hk
      have sub : ∀ x ∈ (M.filter fun x => !off x) ++ N.filter off, x ∈ freeL ss l P := fun x hx => by
        rcases List.mem_append.mp hx with z | z
        · exact hM x (List.mem_filter.mp z).1
        · exact hN x (List.mem_filter.mp z).1
      by_cases fr : ∃ x ∈ freeL ss l P, c ∈ x
      · obtain ⟨x, xf, cx⟩ := fr
        rw [show (if c ∈ (syOf s).l ++ (syOf s).r then (if c ∈ M.flatten then (1 : Int) else 0) else if c ∈ N.flatten then 1 else 0) = if (if c ∈ s.l ++ s.r then x ∈ M else x ∈ N) then 1 else 0 from by
          show (if c ∈ s.l ++ s.r then _ else _) = _
          by_cases z : c ∈ s.l ++ s.r
          · rw [if_pos z]; exact one_iff.mpr (by rw [if_pos z]; exact flat_free H ok p st hM xf cx)
          · rw [if_neg z]; exact one_iff.mpr (by rw [if_neg z]; exact flat_free H ok p st hN xf cx)]
        refine one_iff.mpr ?_
        have rhs : x ∈ (M.filter fun x => !off x) ++ N.filter off ↔ (x ∈ M ∧ (!off x) = true) ∨ (x ∈ N ∧ off x = true) := by rw [List.mem_append, List.mem_filter, List.mem_filter]
        rw [flat_free H ok p st sub xf cx, rhs]
        by_cases e1 : commonL x s.l = []
        · have cl : c ∉ s.l := fun z => by
            have : c ∈ commonL x s.l := mem_commonL.mpr ⟨cx, z⟩
            rw [e1] at this; cases this
          rcases block_parts' H ok p st hs hw (free_in H ok p st xf).1 e1 with e2 | e2
          · have cr : c ∉ s.r := fun z => by
              have : c ∈ commonL x s.r := mem_commonL.mpr ⟨cx, z⟩
              rw [e2] at this; cases this
            have o : off x = true := by simp [off, e1, e2]
            rw [if_neg (by simp [cl, cr])]
            simp [o]
          · have cr : c ∈ s.r := by rw [← e2] at cx; exact (mem_commonL.mp cx).2
            have ne : commonL x s.r ≠ [] := fun z => by
              have : c ∈ commonL x s.r := mem_commonL.mpr ⟨cx, cr⟩
              rw [z] at this; cases this
            have o : off x = false := by simp [off, ne]
            rw [if_pos (by simp [cr])]
            simp [o]
        · have o : off x = false := by simp [off, e1]
          obtain ⟨d, hd⟩ := List.exists_mem_of_ne_nil _ e1
          obtain ⟨dx, dl⟩ := mem_commonL.mp hd
          have mn : x ∈ M ↔ x ∈ N := by
            rw [← flat_free H ok p st hM xf dx, ← flat_free H ok p st hN xf dx]
            exact q d (free_off H ok p st xf dx).1 dl
          by_cases z : c ∈ s.l ++ s.r
          · rw [if_pos z]; simp [o]
          · rw [if_neg z]; simp [o, mn]
      · have none : ∀ {K : List Tx}, (∀ x ∈ K, x ∈ freeL ss l P) → c ∉ K.flatten := fun hK m => by
          obtain ⟨x, hx, cx⟩ := List.mem_flatten.mp m
          exact fr ⟨x, hK x hx, cx⟩
        rw [if_neg (none hM), if_neg (none hN), if_neg (none sub)]
        split <;> rfl
/-- and shows that a telling saying does not follow -/
theorem against_tells (t : TblU h (freeL ss l P) S) {s : Say} (hl : s.l = l) (sr : s.r.Sublist h) (hw : s.w = tellsT) (nf : withinL s.r (toldL ss l P) = false) : ¬ kept h (syOf s) S := fun k => by
  have et : (syOf s).tells = true := by simp [syOf, hw]
  unfold kept at k
  rw [if_pos et] at k
  obtain ⟨c, cr, ct⟩ := withinL_not nf
  have cl : c ∉ l := fun z => ct (mem_told.mpr (.inl z))
  obtain ⟨b, bP, cb⟩ := p.all c (mem_withoutL.mpr ⟨sr.subset cr, cl⟩)
  have bf : b ∈ freeL ss l P := List.mem_filter.mpr ⟨bP, by
    cases e : withinL b (toldL ss l P) with
    | false => rfl
    | true => exact absurd (withinL_iff.mp e c cb) ct⟩
  have m1 : rowU h [b] ∈ S := (t _).mpr ⟨[b], fun x hx => by rw [List.mem_singleton.mp hx]; exact bf, rfl⟩
  have m0 : rowU h [] ∈ S := (t _).mpr ⟨[], fun x hx => (nomatch hx), rfl⟩
  have ag : cellsL (rowU h [b]) h (syOf s).l = cellsL (rowU h []) h (syOf s).l := (agree_U H ok p st).mpr fun d dh dl => by
    have dl : d ∈ l := hl ▸ dl
    refine ⟨fun z => ?_, fun z => by simp at z⟩
    have db : d ∈ b := by simpa using z
    exact absurd dl (free_off H ok p st bf db).2
  have := ((agree_U H ok p st).mp (k _ m1 _ m0 ag) c (sr.subset cr) cr).mp (by simpa using cb)
  simp at this
/-- .. nor a parting one -/
theorem against_parts (t : TblU h (freeL ss l P) S) {s : Say} (hl : s.l = l) (hw : s.w ≠ tellsT) {b : Tx} (bP : b ∈ P) (n1 : commonL b s.r ≠ []) (n2 : commonL b s.r ≠ b) : ¬ kept h (syOf s) S := fun k => by
  have et : (syOf s).tells = false := by simp [syOf, hw]
  unfold kept at k
  rw [if_neg (by rw [et]; simp)] at k
  obtain ⟨c1, h1⟩ := List.exists_mem_of_ne_nil _ n1
  obtain ⟨c1b, c1r⟩ := mem_commonL.mp h1
  obtain ⟨c2, c2b, c2r⟩ : ∃ c ∈ b, c ∉ s.r := Classical.byContradiction fun z => n2 (by
    unfold commonL
    exact List.filter_eq_self.mpr fun d hd => by simpa using Classical.byContradiction fun w => z ⟨d, hd, w⟩)
  have off : ∀ d ∈ b, d ∈ h ∧ d ∉ l := fun d hd => mem_withoutL.mp ((p.sub b bP).subset hd)
  -- told blocks are single
  have bf : b ∈ freeL ss l P := List.mem_filter.mpr ⟨bP, by
    cases e : withinL b (toldL ss l P) with
    | false => rfl
    | true =>
      have w := withinL_iff.mp e
      have one : ∀ d ∈ b, [d] ∈ P := fun d hd => by
        rcases mem_told.mp (w d hd) with z | z
        · exact absurd z (off d hd).2
        · exact z.1
      have e1 := pair_mem p.dis (one c1 c1b) bP (c := c1) (List.mem_singleton.mpr rfl) c1b
      rw [← e1] at c2b
      rw [List.mem_singleton.mp c2b] at c2r
      exact absurd c1r c2r⟩
  have m1 : rowU h [b] ∈ S := (t _).mpr ⟨[b], fun x hx => by rw [List.mem_singleton.mp hx]; exact bf, rfl⟩
  have m0 : rowU h [] ∈ S := (t _).mpr ⟨[], fun x hx => (nomatch hx), rfl⟩
  have ag : cellsL (rowU h [b]) h (syOf s).l = cellsL (rowU h []) h (syOf s).l := (agree_U H ok p st).mpr fun d dh dl => by
    have dl : d ∈ l := hl ▸ dl
    refine ⟨fun z => ?_, fun z => by simp at z⟩
    have db : d ∈ b := by simpa using z
    exact absurd dl (off d db).2
  obtain ⟨M, hM, e⟩ := (t _).mp (k _ m1 _ m0 ag)
  have at_ : ∀ c, c ∈ h → ((c ∈ (syOf s).l ++ (syOf s).r ∧ c ∈ b) ↔ c ∈ M.flatten) := fun c ch => by
    obtain ⟨i, hi, rfl⟩ := List.mem_iff_getElem.mp ch
    have gi : h.getD i 0 = h[i] := by rw [List.getD_eq_getElem?_getD, List.getElem?_eq_getElem hi]; rfl
    have v := congrArg (fun r => r.getD i 0) e

    rw [wanted_get rowU_len rowU_len hi, rowU_get hi, rowU_get hi, rowU_get hi, gi] at v
    by_cases z : h[i] ∈ (syOf s).l ++ (syOf s).r
    · rw [if_pos z] at v
      have := one_iff.mp v
      rw [← this]
      simp [z]
    · rw [if_neg z] at v
      have := one_iff.mp v
      rw [← this]
      simp [z]
  have f1 := (at_ c1 (off c1 c1b).1).mp ⟨List.mem_append_right _ c1r, c1b⟩
  have bM := (flat_free H ok p st hM bf c1b).mp f1
  have f2 := (at_ c2 (off c2 c2b).1).mpr ((flat_free H ok p st hM bf c2b).mpr bM)
  rcases List.mem_append.mp f2.1 with z | z
  · exact (off c2 c2b).2 (hl ▸ z)
  · exact c2r z
end
end Mi
end
section
/-! The unions of free blocks and their rows; sorted rows (k17). -/
namespace Mi
open PySem L2 Dn
open PyProof.Rows
open PySem.W (AllAlike Sortable dataLe alike alikeAll)
/-! ### unions -/
def unionsF (acc : List Tx) : List Tx → List Tx
  | [] => acc
  | b :: F => unionsF (acc ++ acc.map fun u => unionL u b) F
theorem unions_sound : ∀ (F acc : List Tx), ∀ u ∈ unionsF acc F, ∃ a ∈ acc, ∃ M : List Tx, (∀ x ∈ M, x ∈ F) ∧ ∀ c, c ∈ u ↔ c ∈ a ∨ c ∈ M.flatten
  | [], acc, u, hu => ⟨u, hu, [], fun _ h => (nomatch h), fun c => by simp⟩
  | b :: F, acc, u, hu => by
    obtain ⟨a, ha, M, hM, e⟩ := unions_sound F _ u hu
    rcases List.mem_append.mp ha with z | z
    · exact ⟨a, z, M, fun x hx => List.mem_cons_of_mem _ (hM x hx), e⟩
    · obtain ⟨a', ha', rfl⟩ := List.mem_map.mp z
      refine ⟨a', ha', b :: M, fun x hx => ?_, fun c => ?_⟩
      · rcases List.mem_cons.mp hx with e | hx
        · rw [e]; exact List.mem_cons_self
        · exact List.mem_cons_of_mem _ (hM x hx)
      · rw [e c, mem_unionL, List.flatten_cons, List.mem_append, or_assoc]
theorem unions_all : ∀ (F acc : List Tx), ∀ a ∈ acc, ∀ M : List Tx, (∀ x ∈ M, x ∈ F) → ∃ u ∈ unionsF acc F, ∀ c, c ∈ u ↔ c ∈ a ∨ c ∈ M.flatten
  | [], acc, a, ha, M, hM => ⟨a, ha, fun c => by
    have : M = [] := List.eq_nil_iff_forall_not_mem.mpr fun x hx => nomatch hM x hx
    rw [this]
    simp⟩
  | b :: F, acc, a, ha, M, hM => by
    have hN : ∀ x ∈ M.filter fun x => !decide (x = b), x ∈ F := fun x hx => by
      obtain ⟨h1, h2⟩ := List.mem_filter.mp hx
      rcases List.mem_cons.mp (hM x h1) with e | h
      · simp [e] at h2
      · exact h
    by_cases hb : b ∈ M
    · obtain ⟨u, hu, e⟩ := unions_all F (acc ++ acc.map fun u => unionL u b) (unionL a b) (List.mem_append_right _ (List.mem_map.mpr ⟨a, ha, rfl⟩)) _ hN
      refine ⟨u, hu, fun c => ?_⟩
      rw [e c, mem_unionL, or_assoc]
      refine or_congr_right ?_
      constructor
      · rintro (z | z)
        · exact List.mem_flatten.mpr ⟨b, hb, z⟩
        · obtain ⟨x, hx, cx⟩ := List.mem_flatten.mp z
          exact List.mem_flatten.mpr ⟨x, (List.mem_filter.mp hx).1, cx⟩
      · intro z
        obtain ⟨x, hx, cx⟩ := List.mem_flatten.mp z
        by_cases e : x = b
        · exact .inl (e ▸ cx)
        · exact .inr (List.mem_flatten.mpr ⟨x, List.mem_filter.mpr ⟨hx, by simpa using e⟩, cx⟩)
    · obtain ⟨u, hu, e⟩ := unions_all F (acc ++ acc.map fun u => unionL u b) a (List.mem_append_left _ ha) M fun x hx => by
        rcases List.mem_cons.mp (hM x hx) with e | h
        · exact absurd (e ▸ hx) hb
        · exact h
      exact ⟨u, hu, e⟩
theorem unions_len : ∀ (F acc : List Tx), (unionsF acc F).length = acc.length * 2 ^ F.length
  | [], acc => by simp [unionsF]
  | b :: F, acc => by
    unfold unionsF
    rw [unions_len F, List.length_append, List.length_map, List.length_cons, Nat.pow_succ]
    rw [← Nat.two_mul, Nat.mul_comm 2 acc.length, Nat.mul_assoc, Nat.mul_comm 2]
def rowV (h u : Tx) : List Int := h.map fun c => if c ∈ u then 1 else 0
theorem rowV_U {h u : Tx} {M : List Tx} (e : ∀ c, c ∈ u ↔ c ∈ M.flatten) : rowV h u = rowU h M := by
  unfold rowV rowU
  refine List.map_congr_left fun c _ => ?_
  simp only [e c]
def againstF (h : Tx) (F : List Tx) : List (List Int) := srtR ((unionsF [[]] F).map (rowV h))
theorem against_tbl {h : Tx} {F : List Tx} : TblU h F (againstF h F) := fun r => by
  unfold againstF srtR
  rw [List.mem_mergeSort, List.mem_map]
  constructor
  · rintro ⟨u, hu, rfl⟩
    obtain ⟨a, ha, M, hM, e⟩ := unions_sound F _ u hu
    refine ⟨M, hM, rowV_U fun c => ?_⟩
    rw [e c, List.mem_singleton.mp ha]
    simp
  · rintro ⟨M, hM, rfl⟩
    obtain ⟨u, hu, e⟩ := unions_all F [[]] [] (List.mem_singleton.mpr rfl) M hM
    exact ⟨u, hu, rowV_U fun c => by rw [e c]; simp⟩
theorem against_few {h : Tx} {F : List Tx} (hF : F.length ≤ 6) : (againstF h F).length ≤ 64 := by
  unfold againstF srtR
  rw [List.length_mergeSort, List.length_map, unions_len]
  have : 2 ^ F.length ≤ 2 ^ 6 := Nat.pow_le_pow_right (by decide) hF
  simpa using this
/-! ### rows sorted -/
theorem srts_rows {rs : List (List Int)} (hl : rs.length ≤ 10000) (hne : ∀ r ∈ rs, r ≠ []) : Srts (rs.map rowD) where
  py := fun d hd => by
    obtain ⟨r, _, rfl⟩ := List.mem_map.mp hd
    exact ⟨_, toPy_row r⟩
  al := by
    rw [List.map_map]
    exact AllAlike.of fun a b => by
      show alike (Dn.encD (rowD a)) (Dn.encD (rowD b)) = true
      unfold Dn.encD
      rw [toPy_row, toPy_row]
      exact alike_ints a b
  st := .inl fun d hd => by
    rw [List.map_map] at hd
    obtain ⟨r, hr, rfl⟩ := List.mem_map.mp hd
    show ∃ x xs, Dn.encD (rowD r) = _
    unfold Dn.encD
    rw [toPy_row]
    match r, hne r hr with
    | x :: r, _ => exact ⟨_, _, by rw [List.map_cons]; rfl⟩
  dp := fun d hd => by
    obtain ⟨r, _, rfl⟩ := List.mem_map.mp hd
    unfold Dn.encD
    rw [toPy_row]
    show (PyData.tuple (r.map .int)).depth ≤ 64
    simp only [PyData.depth]
    have : PyData.depthAll (r.map .int) = 0 := depth_ints r
    omega
  ln := by rw [List.length_map, sz_line]; omega
theorem oSort_rows {rs : List (List Int)} (hl : rs.length ≤ 10000) (hne : ∀ r ∈ rs, r ≠ []) : oSort [.lst (rs.map rowD)] = some (.lst ((srtR rs).map rowD)) := by
  unfold oSort
  simp only [if_pos (srts_rows hl hne)]
  congr 2
  unfold srtD srtR
  symm
  refine List.map_mergeSort (f := rowD) fun a _ b _ => ?_
  have e := dataLe_tups (fun r : List Int => r)
  have e2 : dataLe false Dn.encD (rowD a) (rowD b) = dataLe false (fun r : List Int => PyData.tuple (r.map .int)) a b := by
    rw [PySem.W.dataLe_eq, PySem.W.dataLe_eq]
    unfold Dn.encD
    dsimp only
    rw [toPy_row, toPy_row]
    rfl
  rw [e2, e]
end Mi
end
section
/-! What `against` answers (k17). -/
namespace Mi
open PySem L2 Dn
theorem unions_snoc (b : Tx) : ∀ (F acc : List Tx), unionsF acc (F ++ [b]) = unionsF acc F ++ (unionsF acc F).map fun u => unionL u b
  | [], acc => rfl
  | x :: F, acc => by
    rw [List.cons_append]
    unfold unionsF
    exact unions_snoc b F _
theorem unions_in {h : Tx} : ∀ (F acc : List Tx), (∀ x ∈ F, ∀ c ∈ x, c ∈ h) → (∀ a ∈ acc, Ris a ∧ ∀ c ∈ a, c ∈ h) → ∀ u ∈ unionsF acc F, Ris u ∧ ∀ c ∈ u, c ∈ h
  | [], acc, _, ha => ha
  | b :: F, acc, hF, ha => by
    refine unions_in F _ (fun x hx => hF x (List.mem_cons_of_mem _ hx)) fun a z => ?_
    rcases List.mem_append.mp z with z | z
    · exact ha a z
    · obtain ⟨a', ha', rfl⟩ := List.mem_map.mp z
      refine ⟨ris_ordL _, fun c hc => ?_⟩
      rcases mem_unionL.mp hc with y | y
      · exact (ha a' ha').2 c y
      · exact hF b List.mem_cons_self c y
theorem flats_rows : ∀ rs : List (List Int), flats (rs.map rowD) = true
  | [] => rfl
  | r :: rs => by
    have one : ∀ r : List Int, flats (r.map Dt.int) = true := fun r => by
      induction r with
      | nil => rfl
      | cons i r ih => simp [flats, flat, ih]
    have : flat (rowD r) = true := by
      show flat (.tup (r.map .int)) = true
      simpa [flat] using one r
    simp [flats, this, flats_rows rs]
section
variable {h : Tx} {ss : List Say} {s : Say} {w : Ds}
theorem against_no (H : Hd h) (sh : SayH h s) (ok : ∀ s ∈ ss, SayH h s) (few : ss.length ≤ 100) (f : followF h ss s = true) : m_against_k17 [bookD h ss, s.d] w = .dat .non w := by
  refine runM_ret (sSeq_ret (sIf_t (w1 := w) (gTst_ok (gCall_dat (ga2 (d := bookD h ss) (d' := s.d) rfl rfl) ((follows_ok H sh ok few).trans (by rw [f])))) rfl))
theorem against_yes (H : Hd h) (sh : SayH h s) (ok : ∀ s ∈ ss, SayH h s) (few : ss.length ≤ 100) (f : followF h ss s = false) : ∃ P, Fin' (withoutL h s.l) (waysL ss) P ∧ m_against_k17 [bookD h ss, s.d] w = .own (.lst ((againstF h (freeL ss s.l P)).map rowD)) w := by
  have hi := H.hi
  obtain ⟨P, hP, eb⟩ := m_blocks_of_eq (w := w) (l := s.l) H (fun s h => (ok s h).ok H) few
  refine ⟨P, hP, ?_⟩
  have et : toldF h ss s.l = toldL ss s.l P := told_one H (finF_ok H ok few) hP
  have psub := hP.sub
  have pfew := hP.few
  have rl := rest_len (p := s.l) H
  let F := freeL ss s.l P
  have fl : F.length ≤ 6 := by
    have : F.length ≤ P.length := List.length_filter_le _ _
    omega
  have fh : ∀ x ∈ F, ∀ c ∈ x, c ∈ h := fun x hx c hc => (mem_withoutL.mp ((psub x (List.mem_filter.mp hx).1).1.subset hc)).1
  let E (k5 k6 k7 k8 : Sl) : Dn.Env := [.dat (bookD h ss), .dat s.d, .dat (T s.w), .dat (T s.l), .dat (T s.r), k5, k6, k7, k8, .un, .un]
  have s1 : sIf (gTst (gCall 2 [] m_follows (gCons (gVar 0) (gCons (gVar 1) gNil)))) (sRet (gOk .non)) sSkip [.dat (bookD h ss), .dat s.d, .un, .un, .un, .un, .un, .un, .un, .un, .un] w = .nx [.dat (bookD h ss), .dat s.d, .un, .un, .un, .un, .un, .un, .un, .un, .un] w :=
    sIf_f (w1 := w) (gTst_ok (gCall_dat (ga2 (d := bookD h ss) (d' := s.d) rfl rfl) ((follows_ok H sh ok few).trans (by rw [f])))) rfl
  have s2 : sAsg (bTup (bCons (bName 2) (bCons (bName 3) (bCons (bName 4) bNil)))) (gVar 1) [.dat (bookD h ss), .dat s.d, .un, .un, .un, .un, .un, .un, .un, .un, .un] w = .nx (E .un .un .un .un) w := rfl
  have s5 : sSet 5 (gCall 2 [] m_told (gCons (gVar 0) (gCons (gVar 3) gNil))) (E .un .un .un .un) w = .nx (E (.dat (T (toldL ss s.l P))) .un .un .un) w :=
    sSet_ok (hi := by show 5 < 11; decide) (gCall_dat (ga2 (d := bookD h ss) (d' := T s.l) rfl rfl) ((told_ok H sh.l ok few).trans (by rw [et])))
  have e6 := gLc_map (vs := [8]) (gi := gIt srcD (gCall 2 [] m_blocks_of (gCons (gVar 0) (gCons (gVar 3) gNil)))) (b := bName 8) (gt := gNot (gTst (gCall 2 [] m_within (gCons (gVar 8) (gCons (gVar 5) gNil))))) (ge := gVar 8) (env := E (.dat (T (toldL ss s.l P))) .un .un .un) (w := w) (w1 := w)
    P T (fun b => !withinL b (toldL ss s.l P)) T (gIt_ok (d := .lst (P.map T)) (gCall_own (ga2 (d := bookD h ss) (d' := T s.l) rfl rfl) eb) rfl)
    (fun b hb => ⟨E (.dat (T (toldL ss s.l P))) .un .un (.dat (T b)), rfl, gNot_ok (gTst_ok (gCall_dat (ga2 (d := T b) (d' := T (toldL ss s.l P)) rfl rfl) (m_within_eq (by have := (psub b hb).1.length_le; omega)))), fun _ => rfl⟩) (by rw [sz_line]; omega)
  have s6 : sSet 6 (gFrz (gLc [8] (gIt srcD (gCall 2 [] m_blocks_of (gCons (gVar 0) (gCons (gVar 3) gNil)))) (bName 8) (gNot (gTst (gCall 2 [] m_within (gCons (gVar 8) (gCons (gVar 5) gNil))))) (gVar 8))) (E (.dat (T (toldL ss s.l P))) .un .un .un) w = .nx (E (.dat (T (toldL ss s.l P))) (.dat (.lst (F.map T))) .un .un) w := sSet_ok (hi := by show 6 < 11; decide) (gFrz_lst e6)
  let G (U : List Tx) (k8 : Sl) := E (.dat (T (toldL ss s.l P))) (.dat (.lst (F.map T))) (.own (.lst (U.map T))) k8
  have s7 : sSetF 7 (gLst (gCons (gOk (.str "")) gNil)) (E (.dat (T (toldL ss s.l P))) (.dat (.lst (F.map T))) .un .un) w = .nx (G [[]] .un) w := sSetF_ok (hi := by show 7 < 11; decide) (gLst_ok' (ds := [T []]) (ga1 (by rw [gOk_app, str_empty])) (by simp))
  have ulen : ∀ pre : List Tx, (∀ x ∈ pre, x ∈ F) → ∀ u ∈ unionsF [[]] pre, u.length ≤ 6 := fun pre hp u hu => by
    obtain ⟨r, m⟩ := unions_in (h := h) pre [[]] (fun x hx => fh x (hp x hx)) (fun a ha => by rw [List.mem_singleton.mp ha]; exact ⟨List.Pairwise.nil, fun _ h => (nomatch h)⟩) u hu
    exact Nat.le_trans (nd_le (Ris.nodup r) m) hi
  obtain ⟨e2, w2, e3, ⟨k8, he⟩, hw⟩ := forG_inv (b := bName 8) (body := b_against_k17_0) (fun pre _ env w' => (∃ k8, env = G (unionsF [[]] pre) k8) ∧ w' = w) T F (by
    intro pre b post env w' hx ⟨⟨k8, he⟩, hw⟩
    subst he hw
    have hp : ∀ x ∈ pre, x ∈ F := fun x z => by rw [hx]; exact List.mem_append_left _ z
    have bF : b ∈ F := by rw [hx]; simp
    have bl : b.length ≤ 6 := by
      have := (psub b (List.mem_filter.mp bF).1).1.length_le
      omega
    have plen : pre.length ≤ 6 := by
      have := congrArg List.length hx
      simp only [List.length_append, List.length_cons] at this
      omega
    let U := unionsF [[]] pre
    have Ul : U.length ≤ 64 := by
      show (unionsF [[]] pre).length ≤ 64
      rw [unions_len]
      have : 2 ^ pre.length ≤ 2 ^ 6 := Nat.pow_le_pow_right (by decide) plen
      simpa using this
    have e := gLc_map (vs := [9]) (gi := gIt srcD (gVar 7)) (b := bName 9) (gt := gYes) (ge := gCall 2 [] m_union (gCons (gVar 9) (gCons (gVar 8) gNil))) (env := lendA (G U (.dat (T b)))) (w := w') (w1 := w')
      U T (fun _ => true) (fun u => T (unionL u b)) (gIt_ok (d := .lst (U.map T)) rfl rfl)
      (fun u hu => ⟨(hide [9] (lendA (G U (.dat (T b))))).set 9 (.dat (T u)), rfl, rfl, fun _ => gCall_dat (ga2 (d := T u) (d' := T b) rfl rfl) (m_union_eq (by have := ulen pre hp u hu; omega))⟩) (by rw [sz_line]; omega)
    rw [filter_tt, show (U.map fun u => T (unionL u b)) = (U.map fun u => unionL u b).map T from by rw [List.map_map]; rfl] at e
    refine ⟨G U (.dat (T b)), rfl, .inl ⟨G (unionsF [[]] (pre ++ [b])) (.dat (T b)), w', ?_, ⟨_, rfl⟩, rfl⟩⟩
    show sAugL 7 (gFrz (gLendF (gLc [9] (gIt srcD (gVar 7)) (bName 9) gYes (gCall 2 [] m_union (gCons (gVar 9) (gCons (gVar 8) gNil)))))) (G U (.dat (T b))) w' = _
    rw [sAugL_app, show (G U (.dat (T b)))[7]? = some (.own (.lst (U.map T))) from rfl]
    simp only [gFrz_lst (gLendF_lst e (flats_T _))]
    rw [if_pos (by rw [List.length_map, List.length_map, List.length_map, sz_line]; omega), unions_snoc]
    rw [← List.map_append]
    rfl)
    (env := G [[]] .un) (w := w) ⟨⟨_, rfl⟩, rfl⟩
  subst he hw
  let U := unionsF [[]] F
  have Ul : U.length ≤ 64 := by
    show (unionsF [[]] F).length ≤ 64
    rw [unions_len]
    have : 2 ^ F.length ≤ 2 ^ 6 := Nat.pow_le_pow_right (by decide) fl
    simpa using this
  have row : ∀ u : Tx, (gArgs oTuple (gCons (gFrz (gLc [10] (gIt srcD (gBind1 (oFld ["Book"] "letters") (gVar 0))) (bName 10) gYes (gArgs oInt (gCons (gBin oIn (gVar 10) (gVar 9)) gNil)))) gNil)) ((hide [9] (lendA (G U k8))).set 9 (.dat (T u))) w2 = .ok (rowD (rowV h u)) w2 := fun u => by
    have v0 : gVar 0 ((hide [9] (lendA (G U k8))).set 9 (.dat (T u))) w2 = .ok (bookD h ss) w2 := by cases k8 <;> rfl
    have e := gLc_map (vs := [10]) (gi := gIt srcD (gBind1 (oFld ["Book"] "letters") (gVar 0))) (b := bName 10) (gt := gYes) (ge := gArgs oInt (gCons (gBin oIn (gVar 10) (gVar 9)) gNil)) (env := (hide [9] (lendA (G U k8))).set 9 (.dat (T u))) (w := w2) (w1 := w2)
      h (fun c : Nat => T [c]) (fun _ => true) (fun c => .int (if c ∈ u then 1 else 0)) (gIt_ok (d := T h) (gBind1_ok (a := bookD h ss) v0 rfl) (srcD_T h))
      (fun c hc => ⟨(hide [10] ((hide [9] (lendA (G U k8))).set 9 (.dat (T u)))).set 10 (.dat (T [c])), by cases k8 <;> rfl, rfl, fun _ => by
        have v10 : gVar 10 ((hide [10] ((hide [9] (lendA (G U k8))).set 9 (.dat (T u)))).set 10 (.dat (T [c]))) w2 = .ok (T [c]) w2 := by cases k8 <;> rfl
        have v9 : gVar 9 ((hide [10] ((hide [9] (lendA (G U k8))).set 9 (.dat (T u)))).set 10 (.dat (T [c]))) w2 = .ok (T u) w2 := by cases k8 <;> rfl
        refine gArgs_ok (ga1 (gBin_ok v10 v9 (oIn_T c u))) ?_
        show some (Dt.int (if decide (c ∈ u) = true then 1 else 0)) = _
        by_cases z : c ∈ u <;> simp [z]⟩) (by rw [sz_line]; omega)
    rw [filter_tt] at e
    refine gArgs_ok (ga1 (gFrz_lst e)) ?_
    rw [oTuple_lst]
    simp [rowD, rowV, List.map_map, Function.comp_def]
  have e9 := gLc_map (vs := [9]) (gi := gIt srcD (gVar 7)) (b := bName 9) (gt := gYes) (ge := gArgs oTuple (gCons (gFrz (gLc [10] (gIt srcD (gBind1 (oFld ["Book"] "letters") (gVar 0))) (bName 10) gYes (gArgs oInt (gCons (gBin oIn (gVar 10) (gVar 9)) gNil)))) gNil)) (env := lendA (G U k8)) (w := w2) (w1 := w2)
    U T (fun _ => true) (fun u => rowD (rowV h u)) (gIt_ok (d := .lst (U.map T)) rfl rfl)
    (fun u hu => ⟨(hide [9] (lendA (G U k8))).set 9 (.dat (T u)), by cases k8 <;> rfl, rfl, fun _ => row u⟩) (by rw [sz_line]; omega)
  rw [filter_tt, show (U.map fun u => rowD (rowV h u)) = (U.map (rowV h)).map rowD from by rw [List.map_map]; rfl] at e9
  have ne : ∀ r ∈ U.map (rowV h), r ≠ [] := fun r hr z => by
    obtain ⟨u, _, rfl⟩ := List.mem_map.mp hr
    have := congrArg List.length z
    have lo := H.lo
    simp [rowV] at this
    rw [this] at lo
    simp at lo
  refine runM_rtf (sSeq_nx s1 (sSeq_nx s2 (sSeq_nx s5 (sSeq_nx s6 (sSeq_nx s7 (sSeq_nx (sFor_ok (gIt_ok (d := .lst (F.map T)) rfl rfl) e3) (sRetF_ok (gLendF_lst (gArgsF_ok (ga1 (gFrz_lst e9)) (oSort_rows (by rw [List.length_map]; omega) ne)) (flats_rows _)))))))))
end
end Mi
end
section
/-! Tables against what does not follow (k17): the law's look. -/
namespace Mi
open PySem L2 Dn
theorem rowV_eq {h u v : Tx} : rowV h u = rowV h v ↔ ∀ c ∈ h, (c ∈ u ↔ c ∈ v) := by
  unfold rowV
  constructor
  · intro e c hc
    exact one_iff.mp (List.map_inj_left.mp e c hc)
  · intro e
    exact List.map_congr_left fun c hc => one_iff.mpr (e c hc)
/-- blocks apart from one another give unlike rows -/
theorem unions_nd {h : Tx} : ∀ (F acc : List Tx), (F.Pairwise fun a b => ∀ c, c ∈ a → c ∉ b) → (∀ x ∈ F, ∃ c ∈ x, c ∈ h) → (∀ x ∈ F, ∀ a ∈ acc, ∀ c ∈ x, c ∉ a) → (acc.map (rowV h)).Nodup → ((unionsF acc F).map (rowV h)).Nodup
  | [], acc, _, _, _, nd => nd
  | b :: F, acc, dis, ne, off, nd => by
    obtain ⟨d1, d2⟩ := List.pairwise_cons.mp dis
    obtain ⟨c0, cb, ch⟩ := ne b List.mem_cons_self
    have ob := off b List.mem_cons_self
    unfold unionsF
    refine unions_nd F _ d2 (fun x hx => ne x (List.mem_cons_of_mem _ hx)) (fun x hx a ha c cx => ?_) ?_
    · rcases List.mem_append.mp ha with z | z
      · exact off x (List.mem_cons_of_mem _ hx) a z c cx
      · obtain ⟨a', ha', rfl⟩ := List.mem_map.mp z
        intro m
        rcases mem_unionL.mp m with y | y
        · exact off x (List.mem_cons_of_mem _ hx) a' ha' c cx y
        · exact d1 x hx c y cx
    · rw [List.map_append, List.map_map]
      refine List.nodup_append.mpr ⟨nd, ?_, ?_⟩
      · unfold List.Nodup at nd ⊢
        rw [List.pairwise_map] at nd ⊢
        refine nd.imp_of_mem fun {x y} hx hy n e => n (rowV_eq.mpr fun c hc => ?_)
        have q := rowV_eq.mp e c hc
        rw [mem_unionL, mem_unionL] at q
        by_cases z : c ∈ b
        · exact ⟨fun m => absurd m (ob x hx c z), fun m => absurd m (ob y hy c z)⟩
        · simpa [z] using q
      · intro r hr r2 hr2 e
        obtain ⟨x, hx, rfl⟩ := List.mem_map.mp hr
        obtain ⟨y, hy, rfl⟩ := List.mem_map.mp hr2
        exact ob x hx c0 cb ((rowV_eq.mp e c0 ch).mpr (mem_unionL.mpr (.inr cb)))
theorem sort_of_nd {R S : List (List Int)} (nd : R.Nodup) (e : ∀ r, r ∈ R ↔ r ∈ S) : srtR R = sortRows S := by
  have q : (R.map fun r : List Int => ((0 : Addr), r)).map (·.2) = R := by rw [List.map_map]; exact List.map_id' R
  have := rows_same (L := R.map fun r => (0, r)) (rs := S) (by rw [q]; exact nd) (fun r => by rw [q]; exact e r)
  rw [q] at this
  exact this
theorem sorted_again {R : List (List Int)} (nd : R.Nodup) : sortRows (srtR R) = srtR R := (sort_of_nd nd fun r => by unfold srtR; rw [List.mem_mergeSort]).symm
section
variable {h : Tx} {w : Ds} {S : List (List Int)}
theorem rows_pl (rs : List (List Int)) : Pl 2 (.lst (rs.map rowD)) := .lst fun x hx => by
  obtain ⟨r, _, rfl⟩ := List.mem_map.mp hx
  exact pl_row r
/-- rows of noughts and ones -/
def Bits (h : Tx) (S : List (List Int)) : Prop := ∀ r ∈ S, r.length = h.length ∧ ∀ c ∈ r, c = 0 ∨ c = 1
theorem m__law_whole_int {i : Int} : m__law_whole [.int i] w = .dat (.bl true) w := rfl
theorem is_table_turn {r : List Int} {k3 : Sl} {n : Nat} (hr : r.length = n) (hb : ∀ c ∈ r, c = 0 ∨ c = 1) (hl : n ≤ 100) : ∃ k3', b__law_is_table_0 [.dat (.lst (S.map rowD)), .dat (.int (n : Int)), .dat (rowD r), k3, .un] w = .nx [.dat (.lst (S.map rowD)), .dat (.int (n : Int)), .dat (rowD r), k3', .un] w := by
  have lr : oLen [rowD r] = some (.int (r.length : Int)) := by
    show some (Dt.int ((r.map Dt.int).length : Int)) = _
    rw [List.length_map]
  refine ⟨.dat (.bl true), sSeq_nx (sSet_ok (hi := by show 3 < 5; decide) (d := .bl true) (w1 := w) (gAndV_t (w1 := w) (by rw [gIsi_app]; rfl) (gBin_ok (gArgs_ok (ga1 (d := rowD r) rfl) lr) rfl (by rw [hr]; exact (oEq_int _ _).trans (by simp))))) ?_⟩
  have e := gLc_map (vs := [4]) (gi := gIt srcD (gVar 2)) (b := bName 4) (gt := gYes) (ge := gAndV (gCall 1 [] m__law_whole (gCons (gVar 4) gNil)) (gChain oLe oLe (gOk (.int 0)) (gVar 4) (gOk (.int 999)))) (env := [.dat (.lst (S.map rowD)), .dat (.int (n : Int)), .dat (rowD r), .dat (.bl true), .un]) (w := w) (w1 := w)
    r Dt.int (fun _ => true) (fun _ => .bl true) (gIt_ok (d := rowD r) rfl rfl) (fun c hc => ⟨[.dat (.lst (S.map rowD)), .dat (.int (n : Int)), .dat (rowD r), .dat (.bl true), .dat (.int c)], rfl, rfl, fun _ => gAndV_t (w1 := w) (gCall_dat (ga1 (d := .int c) rfl) m__law_whole_int) (by
      rcases hb c hc with rfl | rfl <;> rfl)⟩) (by rw [sz_line]; omega)
  rw [filter_tt] at e
  refine sIf_f (w1 := w) (gOr_ok (a := false) (b := false) (gNot_ok (a := true) (gTst_ok (b := true) rfl)) (gNot_ok (a := true) (gTst_ok (gArgs_ok (ga1 (gFrz_lst e)) ?_)))) rfl
  rw [show (r.map fun _ => Dt.bl true) = (r.map fun c => Dt.bl ((fun _ => true) c)) from rfl, oAll_map]
  simp
theorem m__law_is_table_eq (ok : okRows S = true) (b : Bits h S) (srt : sortRows S = S) (hl : h.length ≤ 100) : m__law_is_table [.lst (S.map rowD), .int (h.length : Int)] w = .dat (.bl true) w := by
  have c1 : sIf (gOr (gNot (gTst (gIsi "list" (gVar 0)))) (gTst (gBin oNe (gVar 0) (gCall 1 [] m__law_rising (gCons (gVar 0) gNil))))) (sRet (gOk (.bl false))) sSkip [.dat (.lst (S.map rowD)), .dat (.int (h.length : Int)), .un, .un, .un] w = .nx [.dat (.lst (S.map rowD)), .dat (.int (h.length : Int)), .un, .un, .un] w := by
    refine sIf_f (w1 := w) (gOr_ok (a := false) (b := false) (gNot_ok (a := true) (gTst_ok (b := true) (by rw [gIsi_app]; rfl))) (gTst_ok (gBin_ok (a := .lst (S.map rowD)) (b := .lst (S.map rowD)) rfl (gCall_own (ga1 (d := .lst (S.map rowD)) rfl) ((m__law_rising_eq ok).trans (by rw [srt]))) (oNe_same (n := 2) (rows_pl S))))) rfl
  obtain ⟨e2, w2, e3, ⟨k2, k3, he⟩, hw⟩ := forG_inv (b := bName 2) (body := b__law_is_table_0) (fun _ _ env w' => (∃ k2 k3, env = [.dat (.lst (S.map rowD)), .dat (.int (h.length : Int)), k2, k3, .un]) ∧ w' = w) rowD S (by
    intro pre r post env w' hx ⟨⟨k2, k3, he⟩, hw⟩
    subst he hw
    obtain ⟨z1, z2⟩ := b r (by rw [hx]; simp)
    refine ⟨[.dat (.lst (S.map rowD)), .dat (.int (h.length : Int)), .dat (rowD r), k3, .un], rfl, .inl ?_⟩
    obtain ⟨k3', e⟩ := is_table_turn (w := w') (S := S) (k3 := k3) z1 z2 hl
    exact ⟨_, w', e, ⟨_, _, rfl⟩, rfl⟩)
    (env := [.dat (.lst (S.map rowD)), .dat (.int (h.length : Int)), .un, .un, .un]) (w := w) ⟨⟨_, _, rfl⟩, rfl⟩
  subst he hw
  exact runM_ret (sSeq_nx c1 (sSeq_nx (sFor_ok (gIt_ok (d := .lst (S.map rowD)) rfl rfl) e3) (sRet_ok rfl)))
theorem m__law_keeps_all_eq {ss : List Say} (H : Hd h) (ok : ∀ s ∈ ss, SayH h s) (few : ss.length ≤ 100) (len : ∀ r ∈ S, r.length = h.length) (hn : S.length ≤ 4000) (k : ∀ s ∈ ss, kept h (syOf s) S) : m__law_keeps_all [.lst (S.map rowD), T h, LS ss] w = .dat (.bl true) w := by
  have hi := H.hi
  have e := gLc_map (vs := [3]) (gi := gIt srcD (gVar 2)) (b := bName 3) (gt := gYes) (ge := gBin oIs (gCall 3 [] m__law_clash (gCons (gVar 0) (gCons (gVar 1) (gCons (gVar 3) gNil)))) (gOk .non)) (env := [.dat (.lst (S.map rowD)), .dat (T h), .dat (LS ss), .un]) (w := w) (w1 := w)
    ss Say.d (fun _ => true) (fun _ => .bl true) (gIt_ok (d := LS ss) rfl rfl) (fun s hs => ⟨[.dat (.lst (S.map rowD)), .dat (T h), .dat (LS ss), .dat s.d], rfl, rfl, fun _ => by
      have ll := (ok s hs).l.length_le
      have lr := (ok s hs).r.length_le
      have m := m__law_clash_eq (w := w) (s := syOf s) (rows := S) len (by omega) (show s.l.length ≤ 1000 by omega) (show s.r.length ≤ 1000 by omega) hn
      rw [syOf_d (ok s hs)] at m
      exact gBin_ok (gCall_dat (gaC (d := .lst (S.map rowD)) rfl (gaC (d := T h) rfl (gaC (d := s.d) rfl gaN))) m) rfl (by
        rw [(law_none (h := h) (s := syOf s) (rows := S)).mpr (k s hs)]; rfl)⟩) (by rw [sz_line]; omega)
  rw [filter_tt] at e
  refine runM_ret (sRet_ok (gArgs_ok (ga1 (gFrz_lst e)) ?_))
  rw [show (ss.map fun _ => Dt.bl true) = (ss.map fun c => Dt.bl ((fun _ => true) c)) from rfl, oAll_map]
  simp
end
end Mi
end
section
namespace Qk17
open PySem L2 Dn Mi
/-! is_set -/
abbrev F_is_set (B : Bs) : Fc := { toBs := B, N := ["text", "sign", "one", "other"], sc := defScope s_is_set, lv := 0, calm := true, top := true, cd := none, qual := "is_set" ++ ".<locals>." }
theorem nd_is_set (B : Bs) : (F_is_set B).N.Nodup := (by decide +kernel : (["text", "sign", "one", "other"] : List Str).Nodup)
/-! within -/
abbrev F_within (B : Bs) : Fc := { toBs := B, N := ["one", "other", "sign"], sc := defScope s_within, lv := 0, calm := true, top := true, cd := none, qual := "within" ++ ".<locals>." }
theorem nd_within (B : Bs) : (F_within B).N.Nodup := (by decide +kernel : (["one", "other", "sign"] : List Str).Nodup)
/-! is_saying -/
abbrev F_is_saying (B : Bs) : Fc := { toBs := B, N := ["saying", "columns", "word", "left", "right", "side"], sc := defScope s_is_saying, lv := 1, calm := true, top := true, cd := none, qual := "is_saying" ++ ".<locals>." }
theorem nd_is_saying (B : Bs) : (F_is_saying B).N.Nodup := (by decide +kernel : (["saying", "columns", "word", "left", "right", "side"] : List Str).Nodup)
/-! Book.__init__ -/
abbrev F_Book___init__ (B : Bs) : Fc := { toBs := B, N := ["self", "columns", "sayings", "at", "saying", "known"], sc := defScope s_Book___init__, lv := 4, calm := true, top := true, cd := none, qual := "Book.__init__" ++ ".<locals>." }
theorem nd_Book___init__ (B : Bs) : (F_Book___init__ B).N.Nodup := (by decide +kernel : (["self", "columns", "sayings", "at", "saying", "known"] : List Str).Nodup)
/-! Book.sayings -/
abbrev F_Book_sayings (B : Bs) : Fc := { toBs := B, N := ["self"], sc := defScope s_Book_sayings, lv := 0, calm := true, top := true, cd := none, qual := "Book.sayings" ++ ".<locals>." }
/-! _law_cells -/
abbrev F__law_cells (B : Bs) : Fc := { toBs := B, N := ["_law_line", "_law_head_here", "_law_low", "_law_k"], sc := defScope s__law_cells, lv := 0, calm := true, top := true, cd := none, qual := "_law_cells" ++ ".<locals>." }
theorem nd__law_cells (B : Bs) : (F__law_cells B).N.Nodup := (by decide +kernel : (["_law_line", "_law_head_here", "_law_low", "_law_k"] : List Str).Nodup)
/-! _law_crossed -/
abbrev F__law_crossed (B : Bs) : Fc := { toBs := B, N := ["_law_one", "_law_other", "_law_head_here", "_law_taken", "_law_k"], sc := defScope s__law_crossed, lv := 0, calm := true, top := true, cd := none, qual := "_law_crossed" ++ ".<locals>." }
theorem nd__law_crossed (B : Bs) : (F__law_crossed B).N.Nodup := (by decide +kernel : (["_law_one", "_law_other", "_law_head_here", "_law_taken", "_law_k"] : List Str).Nodup)
/-! _law_clash -/
abbrev F__law_clash (B : Bs) : Fc := { toBs := B, N := ["_law_heap", "_law_head_here", "_law_saying_here", "_law_word", "_law_low", "_law_high", "_law_k", "_law_j", "_law_one", "_law_other", "_law_unlike_here", "_law_mix"], sc := defScope s__law_clash, lv := 1, calm := true, top := true, cd := none, qual := "_law_clash" ++ ".<locals>." }
theorem nd__law_clash (B : Bs) : (F__law_clash B).N.Nodup := (by decide +kernel : (["_law_heap", "_law_head_here", "_law_saying_here", "_law_word", "_law_low", "_law_high", "_law_k", "_law_j", "_law_one", "_law_other", "_law_unlike_here", "_law_mix"] : List Str).Nodup)
/-! _law_of -/
abbrev F__law_of (B : Bs) : Fc := { toBs := B, N := ["_law_head_here", "_law_signs", "_law_sign"], sc := defScope s__law_of, lv := 0, calm := true, top := true, cd := none, qual := "_law_of" ++ ".<locals>." }
theorem nd__law_of (B : Bs) : (F__law_of B).N.Nodup := (by decide +kernel : (["_law_head_here", "_law_signs", "_law_sign"] : List Str).Nodup)
/-! _law_cut_pair -/
abbrev F__law_cut_pair (B : Bs) : Fc := { toBs := B, N := ["_law_head_here", "_law_said_here", "_law_blocks_here", "_law_word", "_law_low", "_law_high", "_law_piece", "_law_block", "_law_inner"], sc := defScope s__law_cut_pair, lv := 1, calm := true, top := true, cd := none, qual := "_law_cut_pair" ++ ".<locals>." }
theorem nd__law_cut_pair (B : Bs) : (F__law_cut_pair B).N.Nodup := (by decide +kernel : (["_law_head_here", "_law_said_here", "_law_blocks_here", "_law_word", "_law_low", "_law_high", "_law_piece", "_law_block", "_law_inner"] : List Str).Nodup)
/-! _law_off -/
abbrev F__law_off (B : Bs) : Fc := { toBs := B, N := ["_law_one", "_law_other", "_law_sign"], sc := defScope s__law_off, lv := 0, calm := true, top := true, cd := none, qual := "_law_off" ++ ".<locals>." }
theorem nd__law_off (B : Bs) : (F__law_off B).N.Nodup := (by decide +kernel : (["_law_one", "_law_other", "_law_sign"] : List Str).Nodup)
/-! _law_blocks -/
abbrev F__law_blocks (B : Bs) : Fc := { toBs := B, N := ["_law_head_here", "_law_said_here", "_law_low", "_law_rest", "_law_blocks_here", "_law_pair", "_law_block", "_law_inner", "_law_one"], sc := defScope s__law_blocks, lv := 2, calm := true, top := true, cd := none, qual := "_law_blocks" ++ ".<locals>." }
theorem nd__law_blocks (B : Bs) : (F__law_blocks B).N.Nodup := (by decide +kernel : (["_law_head_here", "_law_said_here", "_law_low", "_law_rest", "_law_blocks_here", "_law_pair", "_law_block", "_law_inner", "_law_one"] : List Str).Nodup)
/-! _law_in -/
abbrev F__law_in (B : Bs) : Fc := { toBs := B, N := ["_law_one", "_law_other", "_law_sign"], sc := defScope s__law_in, lv := 0, calm := true, top := true, cd := none, qual := "_law_in" ++ ".<locals>." }
theorem nd__law_in (B : Bs) : (F__law_in B).N.Nodup := (by decide +kernel : (["_law_one", "_law_other", "_law_sign"] : List Str).Nodup)
/-! _law_tells -/
abbrev F__law_tells (B : Bs) : Fc := { toBs := B, N := ["_law_head_here", "_law_said_here", "_law_low", "_law_blocks_here", "_law_sure", "_law_word", "_law_left", "_law_right", "_law_sign"], sc := defScope s__law_tells, lv := 3, calm := true, top := true, cd := none, qual := "_law_tells" ++ ".<locals>." }
theorem nd__law_tells (B : Bs) : (F__law_tells B).N.Nodup := (by decide +kernel : (["_law_head_here", "_law_said_here", "_law_low", "_law_blocks_here", "_law_sure", "_law_word", "_law_left", "_law_right", "_law_sign"] : List Str).Nodup)
/-! _law_follows -/
abbrev F__law_follows (B : Bs) : Fc := { toBs := B, N := ["_law_head_here", "_law_said_here", "_law_saying_here", "_law_word", "_law_low", "_law_high", "_law_block"], sc := defScope s__law_follows, lv := 4, calm := true, top := true, cd := none, qual := "_law_follows" ++ ".<locals>." }
theorem nd__law_follows (B : Bs) : (F__law_follows B).N.Nodup := (by decide +kernel : (["_law_head_here", "_law_said_here", "_law_saying_here", "_law_word", "_law_low", "_law_high", "_law_block"] : List Str).Nodup)
/-! _law_draw -/
abbrev F__law_draw (B : Bs) : Fc := { toBs := B, N := ["_law_d", "_law_many", "_law_cell", "_law_got"], sc := defScope s__law_draw, lv := 0, calm := true, top := true, cd := none, qual := "_law_draw" ++ ".<locals>." }
theorem nd__law_draw (B : Bs) : (F__law_draw B).N.Nodup := (by decide +kernel : (["_law_d", "_law_many", "_law_cell", "_law_got"] : List Str).Nodup)
/-! _law_letters -/
abbrev F__law_letters (B : Bs) : Fc := { toBs := B, N := [], sc := defScope s__law_letters, lv := 0, calm := true, top := true, cd := none, qual := "_law_letters" ++ ".<locals>." }
/-! _law_head_of -/
abbrev F__law_head_of (B : Bs) : Fc := { toBs := B, N := ["_law_d", "_law_many", "_law_head_here", "_law_at", "_law_spare_signs", "_law_k", "_law_skip"], sc := defScope s__law_head_of, lv := 1, calm := true, top := true, cd := none, qual := "_law_head_of" ++ ".<locals>." }
theorem nd__law_head_of (B : Bs) : (F__law_head_of B).N.Nodup := (by decide +kernel : (["_law_d", "_law_many", "_law_head_here", "_law_at", "_law_spare_signs", "_law_k", "_law_skip"] : List Str).Nodup)
/-! _law_head -/
abbrev F__law_head (B : Bs) : Fc := { toBs := B, N := ["_law_d"], sc := defScope s__law_head, lv := 2, calm := true, top := true, cd := none, qual := "_law_head" ++ ".<locals>." }
/-! _law_rising -/
abbrev F__law_rising (B : Bs) : Fc := { toBs := B, N := ["_law_heap", "_law_line"], sc := defScope s__law_rising, lv := 0, calm := true, top := true, cd := none, qual := "_law_rising" ++ ".<locals>." }
theorem nd__law_rising (B : Bs) : (F__law_rising B).N.Nodup := (by decide +kernel : (["_law_heap", "_law_line"] : List Str).Nodup)
/-! _law_whole -/
abbrev F__law_whole (B : Bs) : Fc := { toBs := B, N := ["_law_x"], sc := defScope s__law_whole, lv := 0, calm := true, top := true, cd := none, qual := "_law_whole" ++ ".<locals>." }
/-! _law_is_table -/
abbrev F__law_is_table (B : Bs) : Fc := { toBs := B, N := ["_law_x", "_law_many", "_law_line", "_law_good", "_law_cell"], sc := defScope s__law_is_table, lv := 1, calm := true, top := true, cd := none, qual := "_law_is_table" ++ ".<locals>." }
theorem nd__law_is_table (B : Bs) : (F__law_is_table B).N.Nodup := (by decide +kernel : (["_law_x", "_law_many", "_law_line", "_law_good", "_law_cell"] : List Str).Nodup)
/-! _law_keeps_all -/
abbrev F__law_keeps_all (B : Bs) : Fc := { toBs := B, N := ["_law_heap", "_law_head_here", "_law_said_here", "_law_one"], sc := defScope s__law_keeps_all, lv := 2, calm := true, top := true, cd := none, qual := "_law_keeps_all" ++ ".<locals>." }
theorem nd__law_keeps_all (B : Bs) : (F__law_keeps_all B).N.Nodup := (by decide +kernel : (["_law_heap", "_law_head_here", "_law_said_here", "_law_one"] : List Str).Nodup)
/-! _law_side -/
abbrev F__law_side (B : Bs) : Fc := { toBs := B, N := ["_law_d", "_law_head_here", "_law_odds", "_law_sign"], sc := defScope s__law_side, lv := 1, calm := true, top := true, cd := none, qual := "_law_side" ++ ".<locals>." }
theorem nd__law_side (B : Bs) : (F__law_side B).N.Nodup := (by decide +kernel : (["_law_d", "_law_head_here", "_law_odds", "_law_sign"] : List Str).Nodup)
/-! _law_saying -/
abbrev F__law_saying (B : Bs) : Fc := { toBs := B, N := ["_law_d", "_law_head_here", "_law_word", "_law_low", "_law_high"], sc := defScope s__law_saying, lv := 2, calm := true, top := true, cd := none, qual := "_law_saying" ++ ".<locals>." }
theorem nd__law_saying (B : Bs) : (F__law_saying B).N.Nodup := (by decide +kernel : (["_law_d", "_law_head_here", "_law_word", "_law_low", "_law_high"] : List Str).Nodup)
/-! _law_unlike -/
abbrev F__law_unlike (B : Bs) : Fc := { toBs := B, N := ["_law_said_here", "_law_out", "_law_one"], sc := defScope s__law_unlike, lv := 0, calm := true, top := true, cd := none, qual := "_law_unlike" ++ ".<locals>." }
theorem nd__law_unlike (B : Bs) : (F__law_unlike B).N.Nodup := (by decide +kernel : (["_law_said_here", "_law_out", "_law_one"] : List Str).Nodup)
/-! _law_said -/
abbrev F__law_said (B : Bs) : Fc := { toBs := B, N := ["_law_d", "_law_head_here", "_law_most", "_law_k"], sc := defScope s__law_said, lv := 3, calm := true, top := true, cd := none, qual := "_law_said" ++ ".<locals>." }
theorem nd__law_said (B : Bs) : (F__law_said B).N.Nodup := (by decide +kernel : (["_law_d", "_law_head_here", "_law_most", "_law_k"] : List Str).Nodup)
/-! _law_start -/
abbrev F__law_start (B : Bs) : Fc := { toBs := B, N := ["_law_script"], sc := defScope s__law_start, lv := 0, calm := true, top := true, cd := none, qual := "_law_start" ++ ".<locals>." }
/-! common -/
abbrev F_common (B : Bs) : Fc := { toBs := B, N := ["one", "other", "sign"], sc := defScope s_common, lv := 0, calm := true, top := true, cd := none, qual := "common" ++ ".<locals>." }
theorem nd_common (B : Bs) : (F_common B).N.Nodup := (by decide +kernel : (["one", "other", "sign"] : List Str).Nodup)
/-! cut_once -/
abbrev F_cut_once (B : Bs) : Fc := { toBs := B, N := ["blocks", "ways", "left", "right", "at", "block", "inner"], sc := defScope s_cut_once, lv := 1, calm := true, top := true, cd := none, qual := "cut_once" ++ ".<locals>." }
theorem nd_cut_once (B : Bs) : (F_cut_once B).N.Nodup := (by decide +kernel : (["blocks", "ways", "left", "right", "at", "block", "inner"] : List Str).Nodup)
/-! cutters -/
abbrev F_cutters (B : Bs) : Fc := { toBs := B, N := ["book", "found", "word", "left", "right", "sign"], sc := defScope s_cutters, lv := 0, calm := true, top := true, cd := none, qual := "cutters" ++ ".<locals>." }
theorem nd_cutters (B : Bs) : (F_cutters B).N.Nodup := (by decide +kernel : (["book", "found", "word", "left", "right", "sign"] : List Str).Nodup)
/-! without -/
abbrev F_without (B : Bs) : Fc := { toBs := B, N := ["one", "other", "sign"], sc := defScope s_without, lv := 0, calm := true, top := true, cd := none, qual := "without" ++ ".<locals>." }
theorem nd_without (B : Bs) : (F_without B).N.Nodup := (by decide +kernel : (["one", "other", "sign"] : List Str).Nodup)
/-! blocks_of -/
abbrev F_blocks_of (B : Bs) : Fc := { toBs := B, N := ["book", "left", "rest", "blocks", "ways", "found", "at", "low", "high", "block"], sc := defScope s_blocks_of, lv := 2, calm := true, top := true, cd := none, qual := "blocks_of" ++ ".<locals>." }
theorem nd_blocks_of (B : Bs) : (F_blocks_of B).N.Nodup := (by decide +kernel : (["book", "left", "rest", "blocks", "ways", "found", "at", "low", "high", "block"] : List Str).Nodup)
/-! looked -/
abbrev F_looked (B : Bs) : Fc := { toBs := B, N := ["saying", "columns", "at"], sc := defScope s_looked, lv := 4, calm := true, top := true, cd := none, qual := "looked" ++ ".<locals>." }
/-! made_of -/
abbrev F_made_of (B : Bs) : Fc := { toBs := B, N := ["blocks", "right", "block"], sc := defScope s_made_of, lv := 1, calm := true, top := true, cd := none, qual := "made_of" ++ ".<locals>." }
theorem nd_made_of (B : Bs) : (F_made_of B).N.Nodup := (by decide +kernel : (["blocks", "right", "block"] : List Str).Nodup)
/-! need_columns -/
abbrev F_need_columns (B : Bs) : Fc := { toBs := B, N := ["book", "left", "sign"], sc := defScope s_need_columns, lv := 4, calm := true, top := true, cd := none, qual := "need_columns" ++ ".<locals>." }
theorem nd_need_columns (B : Bs) : (F_need_columns B).N.Nodup := (by decide +kernel : (["book", "left", "sign"] : List Str).Nodup)
/-! teller_of -/
abbrev F_teller_of (B : Bs) : Fc := { toBs := B, N := ["book", "sign", "word", "left", "right"], sc := defScope s_teller_of, lv := 0, calm := true, top := true, cd := none, qual := "teller_of" ++ ".<locals>." }
theorem nd_teller_of (B : Bs) : (F_teller_of B).N.Nodup := (by decide +kernel : (["book", "sign", "word", "left", "right"] : List Str).Nodup)
/-! ordered -/
abbrev F_ordered (B : Bs) : Fc := { toBs := B, N := ["signs"], sc := defScope s_ordered, lv := 0, calm := true, top := true, cd := none, qual := "ordered" ++ ".<locals>." }
/-! union -/
abbrev F_union (B : Bs) : Fc := { toBs := B, N := ["one", "other"], sc := defScope s_union, lv := 1, calm := true, top := true, cd := none, qual := "union" ++ ".<locals>." }
/-! told -/
abbrev F_told (B : Bs) : Fc := { toBs := B, N := ["book", "left", "single", "block", "sign"], sc := defScope s_told, lv := 5, calm := true, top := true, cd := none, qual := "told" ++ ".<locals>." }
theorem nd_told (B : Bs) : (F_told B).N.Nodup := (by decide +kernel : (["book", "left", "single", "block", "sign"] : List Str).Nodup)
/-! follows -/
abbrev F_follows (B : Bs) : Fc := { toBs := B, N := ["book", "saying", "word", "left", "right"], sc := defScope s_follows, lv := 6, calm := true, top := true, cd := none, qual := "follows" ++ ".<locals>." }
theorem nd_follows (B : Bs) : (F_follows B).N.Nodup := (by decide +kernel : (["book", "saying", "word", "left", "right"] : List Str).Nodup)
/-! against -/
abbrev F_against (B : Bs) : Fc := { toBs := B, N := ["book", "saying", "word", "left", "right", "sure", "blocks", "chosen", "block", "one", "sign"], sc := defScope s_against, lv := 7, calm := true, top := true, cd := none, qual := "against" ++ ".<locals>." }
theorem nd_against (B : Bs) : (F_against B).N.Nodup := (by decide +kernel : (["book", "saying", "word", "left", "right", "sure", "blocks", "chosen", "block", "one", "sign"] : List Str).Nodup)
/-! law -/
abbrev F_law (B : Bs) : Fc := { toBs := B, N := ["_law_script", "_law_d", "_law_head_here", "_law_said_here", "_law_book", "_law_k", "_law_saying_here", "_law_again", "_law_got"], sc := defScope s_law, lv := 8, calm := true, top := true, cd := none, qual := "law" ++ ".<locals>." }
theorem nd_law (B : Bs) : (F_law B).N.Nodup := (by decide +kernel : (["_law_script", "_law_d", "_law_head_here", "_law_said_here", "_law_book", "_law_k", "_law_saying_here", "_law_again", "_law_got"] : List Str).Nodup)
theorem scx_Refused : FnScope ["self", "word"] ["self", "word"] (defScope sx_Refused) := ⟨rfl, rfl, rfl, by decide +kernel, rfl, by decide +kernel, by decide +kernel⟩
theorem scx_Misshapen : FnScope ["self", "word"] ["self", "word"] (defScope sx_Misshapen) := ⟨rfl, rfl, rfl, by decide +kernel, rfl, by decide +kernel, by decide +kernel⟩
theorem scx_BadColumns : FnScope ["self"] ["self"] (defScope sx_BadColumns) := ⟨rfl, rfl, rfl, by decide +kernel, rfl, by decide +kernel, by decide +kernel⟩
theorem scx_BadSaying : FnScope ["self", "at"] ["self", "at"] (defScope sx_BadSaying) := ⟨rfl, rfl, rfl, by decide +kernel, rfl, by decide +kernel, by decide +kernel⟩
theorem scx_Unfit : FnScope ["self", "word"] ["self", "word"] (defScope sx_Unfit) := ⟨rfl, rfl, rfl, by decide +kernel, rfl, by decide +kernel, by decide +kernel⟩
theorem scx_NoColumn : FnScope ["self", "name"] ["self", "name"] (defScope sx_NoColumn) := ⟨rfl, rfl, rfl, by decide +kernel, rfl, by decide +kernel, by decide +kernel⟩
theorem scx_Full : FnScope ["self", "most"] ["self", "most"] (defScope sx_Full) := ⟨rfl, rfl, rfl, by decide +kernel, rfl, by decide +kernel, by decide +kernel⟩
structure Hy (B : Bs) : Prop where
  kin : B.K.In B.base
  ns : B.base.Ns mainGlobals B.mg
  c : He.SaysD fa fn B.K
  tabs : ∀ p ∈ tf, LamX.TabB B.base B.mg (He.cT B.K p).1 (He.cT B.K p).2
  tb : B.tb = tbs B.K
  ex : ex B.K = true
  cls : B.cls = clsOf B.K excs
  dic : (ts.map fun t => He.dicW B.K (t.1 B.K)) = ts.map fun t => some (He.keysIn B.w.params t.2)
section
variable {B : Bs} (Y : Hy B)
include Y
theorem exAt {i : Nat} {b : Bool} (h : (chk B.K)[i]? = some b) : b = true := by
  have := List.all_eq_true.mp (show (chk B.K).all id = true from Y.ex) b (List.mem_of_getElem? h)
  exact this
theorem fr_ValueError : B.mg "ValueError" = none := He.free_ok Y.kin Y.ns (Y.c.fact 56 (f := .free "ValueError") rfl)
theorem fr_abs : B.mg "abs" = none := He.free_ok Y.kin Y.ns (Y.c.fact 57 (f := .free "abs") rfl)
theorem fr_all : B.mg "all" = none := He.free_ok Y.kin Y.ns (Y.c.fact 58 (f := .free "all") rfl)
theorem fr_any : B.mg "any" = none := He.free_ok Y.kin Y.ns (Y.c.fact 59 (f := .free "any") rfl)
theorem fr_bool : B.mg "bool" = none := He.free_ok Y.kin Y.ns (Y.c.fact 60 (f := .free "bool") rfl)
theorem fr_enumerate : B.mg "enumerate" = none := He.free_ok Y.kin Y.ns (Y.c.fact 61 (f := .free "enumerate") rfl)
theorem fr_int : B.mg "int" = none := He.free_ok Y.kin Y.ns (Y.c.fact 62 (f := .free "int") rfl)
theorem fr_isinstance : B.mg "isinstance" = none := He.free_ok Y.kin Y.ns (Y.c.fact 63 (f := .free "isinstance") rfl)
theorem fr_len : B.mg "len" = none := He.free_ok Y.kin Y.ns (Y.c.fact 64 (f := .free "len") rfl)
theorem fr_list : B.mg "list" = none := He.free_ok Y.kin Y.ns (Y.c.fact 65 (f := .free "list") rfl)
theorem fr_min : B.mg "min" = none := He.free_ok Y.kin Y.ns (Y.c.fact 66 (f := .free "min") rfl)
theorem fr_range : B.mg "range" = none := He.free_ok Y.kin Y.ns (Y.c.fact 67 (f := .free "range") rfl)
theorem fr_set : B.mg "set" = none := He.free_ok Y.kin Y.ns (Y.c.fact 68 (f := .free "set") rfl)
theorem fr_sorted : B.mg "sorted" = none := He.free_ok Y.kin Y.ns (Y.c.fact 69 (f := .free "sorted") rfl)
theorem fr_tuple : B.mg "tuple" = none := He.free_ok Y.kin Y.ns (Y.c.fact 71 (f := .free "tuple") rfl)
theorem fr_zip : B.mg "zip" = none := He.free_ok Y.kin Y.ns (Y.c.fact 72 (f := .free "zip") rfl)
theorem con_LEAST {F : Fc} {p : PySem.Pos} (hF : F.toBs = B) (hg : F.sc.names.lookup ("LEAST" : Str) = some .globalImplicit) : DE F (.Name "LEAST" p) (gOk (.int 2)) := by
  subst hF
  exact let ⟨t, h⟩ := He.int_ok Y.kin Y.ns (Y.c.fact 73 (f := .int "LEAST" 2) rfl); de_glob hg h (v := .int 2) ⟨t, rfl⟩ fun _ _ _ _ => .int _
theorem con_MOST {F : Fc} {p : PySem.Pos} (hF : F.toBs = B) (hg : F.sc.names.lookup ("MOST" : Str) = some .globalImplicit) : DE F (.Name "MOST" p) (gOk (.int 6)) := by
  subst hF
  exact let ⟨t, h⟩ := He.int_ok Y.kin Y.ns (Y.c.fact 74 (f := .int "MOST" 6) rfl); de_glob hg h (v := .int 6) ⟨t, rfl⟩ fun _ _ _ _ => .int _
theorem con_LETTERS {F : Fc} {p : PySem.Pos} (hF : F.toBs = B) (hg : F.sc.names.lookup ("LETTERS" : Str) = some .globalImplicit) : DE F (.Name "LETTERS" p) (gOk (.str "abcdefghijklmnopqrstuvwxyz")) := by
  subst hF
  exact let ⟨t, h⟩ := He.str_ok Y.kin Y.ns (Y.c.fact 75 (f := .str "LETTERS" "abcdefghijklmnopqrstuvwxyz") rfl); de_glob hg h (v := .str "abcdefghijklmnopqrstuvwxyz") ⟨t, rfl⟩ fun _ _ _ _ => .str _
theorem con_TELLS {F : Fc} {p : PySem.Pos} (hF : F.toBs = B) (hg : F.sc.names.lookup ("TELLS" : Str) = some .globalImplicit) : DE F (.Name "TELLS" p) (gOk (.str "tells")) := by
  subst hF
  exact let ⟨t, h⟩ := He.str_ok Y.kin Y.ns (Y.c.fact 76 (f := .str "TELLS" "tells") rfl); de_glob hg h (v := .str "tells") ⟨t, rfl⟩ fun _ _ _ _ => .str _
theorem con_MOST_SAYINGS {F : Fc} {p : PySem.Pos} (hF : F.toBs = B) (hg : F.sc.names.lookup ("MOST_SAYINGS" : Str) = some .globalImplicit) : DE F (.Name "MOST_SAYINGS" p) (gOk (.int 12)) := by
  subst hF
  exact let ⟨t, h⟩ := He.int_ok Y.kin Y.ns (Y.c.fact 79 (f := .int "MOST_SAYINGS" 12) rfl); de_glob hg h (v := .int 12) ⟨t, rfl⟩ fun _ _ _ _ => .int _
theorem glo_Refused : B.mg "Refused" = some (.ref (He.ga B.K "Refused")) := He.glo_ok Y.kin Y.ns (Y.c.fact 46 (f := .glo "Refused") rfl)
theorem glo_Misshapen : B.mg "Misshapen" = some (.ref (He.ga B.K "Misshapen")) := He.glo_ok Y.kin Y.ns (Y.c.fact 47 (f := .glo "Misshapen") rfl)
theorem glo_Unfit : B.mg "Unfit" = some (.ref (He.ga B.K "Unfit")) := He.glo_ok Y.kin Y.ns (Y.c.fact 48 (f := .glo "Unfit") rfl)
theorem glo_BadColumns : B.mg "BadColumns" = some (.ref (He.ga B.K "BadColumns")) := He.glo_ok Y.kin Y.ns (Y.c.fact 49 (f := .glo "BadColumns") rfl)
theorem glo_BadSaying : B.mg "BadSaying" = some (.ref (He.ga B.K "BadSaying")) := He.glo_ok Y.kin Y.ns (Y.c.fact 50 (f := .glo "BadSaying") rfl)
theorem glo_NoColumn : B.mg "NoColumn" = some (.ref (He.ga B.K "NoColumn")) := He.glo_ok Y.kin Y.ns (Y.c.fact 51 (f := .glo "NoColumn") rfl)
theorem glo_Full : B.mg "Full" = some (.ref (He.ga B.K "Full")) := He.glo_ok Y.kin Y.ns (Y.c.fact 53 (f := .glo "Full") rfl)
theorem glo_Book : B.mg "Book" = some (.ref (He.ga B.K "Book")) := He.glo_ok Y.kin Y.ns (Y.c.fact 54 (f := .glo "Book") rfl)
theorem glo_SIGNS : B.mg "SIGNS" = some (.ref (He.ga B.K "SIGNS")) := He.glo_ok Y.kin Y.ns (Y.c.fact 55 (f := .glo "SIGNS") rfl)
theorem kd_SIGNS : KdF B "SIGNS" [("tells", ">"), ("parts", ">>")] := kd_of (glo_SIGNS Y) ((List.map_inj_left.mp Y.dic) (fun K => He.ga K "SIGNS", ["tells", "parts"]) List.mem_cons_self) (exAt Y (i := 1) rfl)
theorem ff_Book_letters : FldF B "letters" ["Book"] := fld_of Y.cls (He.cls_ok (Y.c.fact 41 (f := .cls "Book") rfl)) (He.noat_ok (Y.c.fact 43 (f := .noat "Book" "letters") rfl))
theorem ff_Book_said : FldF B "said" ["Book"] := fld_of Y.cls (He.cls_ok (Y.c.fact 41 (f := .cls "Book") rfl)) (He.noat_ok (Y.c.fact 44 (f := .noat "Book" "said") rfl))
theorem xi_Refused : ∃ fd, FnOk B.P B.w B.K B.mg B.base (L2.CX B.P B.w) 1 (He.fAd B.K ("Refused", some "__init__")) fd ["self", "word"] (spX B.K ["word"] 1 (fsRoot "word")) ∧ Binds B.K fd ["self", "word"] [] := by
  obtain ⟨fd, Fu⟩ := Y.c.def_ 43 (d := ddx_Refused) rfl
  exact ⟨fd, fn_root 0 Fu scx_Refused (by kernel_rfl) (by kernel_rfl) (by kernel_rfl) (fr_ValueError Y) (veB_ok (exAt Y (i := 2) rfl)), (binds_full Fu (List.cons_ne_nil _ _) fun _ _ _ _ _ _ _ us its hl hi => by match us, its, hl, hi with | [_, _], [_], _, _ => exact ⟨_, rfl, rfl⟩)⟩
theorem xi_Misshapen : ∃ fd, FnOk B.P B.w B.K B.mg B.base (L2.CX B.P B.w) 2 (He.fAd B.K ("Misshapen", some "__init__")) fd ["self", "word"] (spX B.K ["word"] 1 (fsRoot "word")) ∧ Binds B.K fd ["self", "word"] [] := by
  obtain ⟨fd, Fu⟩ := Y.c.def_ 44 (d := ddx_Misshapen) rfl
  obtain ⟨fdU, F1, hb⟩ := xi_Refused Y
  exact ⟨fd, fn_up 1 Fu scx_Misshapen (by kernel_rfl) (by kernel_rfl) (by kernel_rfl) (glo_Refused Y) (clsFnB_ok (exAt Y (i := 3) rfl)) F1 (by decide) hb, (binds_full Fu (List.cons_ne_nil _ _) fun _ _ _ _ _ _ _ us its hl hi => by match us, its, hl, hi with | [_, _], [_], _, _ => exact ⟨_, rfl, rfl⟩)⟩
theorem xk_BadColumns : ExK B 3 "BadColumns" 0 [] "word" "BadColumns" := by
  obtain ⟨fd, Fu⟩ := Y.c.def_ 45 (d := ddx_BadColumns) rfl
  obtain ⟨fdU, F1, hb⟩ := xi_Misshapen Y
  exact exk_of (ns := excs) (l := []) (glo_BadColumns Y) Y.cls (by decide +kernel) (exAt Y (i := 4) rfl) (fn_leaf (l := []) 2 Fu scx_BadColumns (by kernel_rfl) (by kernel_rfl) (glo_Misshapen Y) (clsFnB_ok (exAt Y (i := 5) rfl)) F1 (by decide) hb (fun X hN hS => sts_nil) (by decide) (by decide)) (Fu.bindsN fun _ _ _ _ _ _ us hl => by match us, hl with | [_], _ => rfl)
theorem xk_BadSaying : ExK B 3 "BadSaying" 1 [("at", 1)] "word" "BadSaying" := by
  obtain ⟨fd, Fu⟩ := Y.c.def_ 46 (d := ddx_BadSaying) rfl
  obtain ⟨fdU, F1, hb⟩ := xi_Misshapen Y
  exact exk_of (ns := excs) (l := [("at", 1)]) (glo_BadSaying Y) Y.cls (by decide +kernel) (exAt Y (i := 6) rfl) (fn_leaf (l := [("at", 1)]) 2 Fu scx_BadSaying (by kernel_rfl) (by kernel_rfl) (glo_Misshapen Y) (clsFnB_ok (exAt Y (i := 5) rfl)) F1 (by decide) hb (fun X hN hS => (sts_cons 1 (by rw [hN]; rfl) (by rw [hS]; exact .inl (by kernel_rfl)) (by rw [hN]; rfl) (by rw [hS]; exact .inl (by kernel_rfl)) sts_nil)) (by decide) (by decide)) (Fu.bindsN fun _ _ _ _ _ _ us hl => by match us, hl with | [_, _], _ => rfl)
theorem xi_Unfit : ∃ fd, FnOk B.P B.w B.K B.mg B.base (L2.CX B.P B.w) 2 (He.fAd B.K ("Unfit", some "__init__")) fd ["self", "word"] (spX B.K ["word"] 1 (fsRoot "word")) ∧ Binds B.K fd ["self", "word"] [] := by
  obtain ⟨fd, Fu⟩ := Y.c.def_ 47 (d := ddx_Unfit) rfl
  obtain ⟨fdU, F1, hb⟩ := xi_Refused Y
  exact ⟨fd, fn_up 1 Fu scx_Unfit (by kernel_rfl) (by kernel_rfl) (by kernel_rfl) (glo_Refused Y) (clsFnB_ok (exAt Y (i := 3) rfl)) F1 (by decide) hb, (binds_full Fu (List.cons_ne_nil _ _) fun _ _ _ _ _ _ _ us its hl hi => by match us, its, hl, hi with | [_, _], [_], _, _ => exact ⟨_, rfl, rfl⟩)⟩
theorem xk_NoColumn : ExK B 3 "NoColumn" 1 [("name", 1)] "word" "NoColumn" := by
  obtain ⟨fd, Fu⟩ := Y.c.def_ 48 (d := ddx_NoColumn) rfl
  obtain ⟨fdU, F1, hb⟩ := xi_Unfit Y
  exact exk_of (ns := excs) (l := [("name", 1)]) (glo_NoColumn Y) Y.cls (by decide +kernel) (exAt Y (i := 7) rfl) (fn_leaf (l := [("name", 1)]) 2 Fu scx_NoColumn (by kernel_rfl) (by kernel_rfl) (glo_Unfit Y) (clsFnB_ok (exAt Y (i := 8) rfl)) F1 (by decide) hb (fun X hN hS => (sts_cons 1 (by rw [hN]; rfl) (by rw [hS]; exact .inl (by kernel_rfl)) (by rw [hN]; rfl) (by rw [hS]; exact .inl (by kernel_rfl)) sts_nil)) (by decide) (by decide)) (Fu.bindsN fun _ _ _ _ _ _ us hl => by match us, hl with | [_, _], _ => rfl)
theorem xk_Full : ExK B 3 "Full" 1 [("most", 1)] "word" "Full" := by
  obtain ⟨fd, Fu⟩ := Y.c.def_ 49 (d := ddx_Full) rfl
  obtain ⟨fdU, F1, hb⟩ := xi_Unfit Y
  exact exk_of (ns := excs) (l := [("most", 1)]) (glo_Full Y) Y.cls (by decide +kernel) (exAt Y (i := 9) rfl) (fn_leaf (l := [("most", 1)]) 2 Fu scx_Full (by kernel_rfl) (by kernel_rfl) (glo_Unfit Y) (clsFnB_ok (exAt Y (i := 8) rfl)) F1 (by decide) hb (fun X hN hS => (sts_cons 1 (by rw [hN]; rfl) (by rw [hS]; exact .inl (by kernel_rfl)) (by rw [hN]; rfl) (by rw [hS]; exact .inl (by kernel_rfl)) sts_nil)) (by decide) (by decide)) (Fu.bindsN fun _ _ _ _ _ _ us hl => by match us, hl with | [_, _], _ => rfl)
end
theorem htb_of {K : PySem.W.Frag} {p : Addr × Str} (h : p ∈ tbs K) : ∃ c, (c, p.1) ∈ tf.map (He.cT K) := nomatch h
end Qk17
end
section
namespace Qk17
open PySem L2 Dn Mi
theorem sc_is_set : FnScope ["text", "sign", "one", "other"] ["text"] (defScope s_is_set) := ⟨rfl, rfl, rfl, by decide +kernel, rfl, by decide +kernel, by decide +kernel⟩
section
variable {B : Bs} (Y : Hy B)
include Y
theorem d_is_set : DB (F_is_set B) (defBody s_is_set) g_is_set :=
  (db_cons (ds_if (dt_val (de_any rfl (by kernel_rfl) (fr_any Y) (dl_cons (de_frz (df_lc [("sign", 1)] rfl (nd_is_set B) (di_any (de_var 0 rfl (.inl (by kernel_rfl)))) (by kernel_rfl) (dg_name 1 (nd_is_set B) rfl (.inl (by kernel_rfl)) (.inr (by kernel_rfl))) dts_nil (de_cmp c_notIn (de_var 1 rfl (.inl (by kernel_rfl))) (con_LETTERS Y rfl (by kernel_rfl))) (by decide))) dl_nil))) (db_one (ds_ret de_bl)) db_nil) (db_one (ds_ret (de_all rfl (by kernel_rfl) (fr_all Y) (dl_cons (de_frz (df_lc [("one", 2), ("other", 3)] rfl (nd_is_set B) (di_zip2 (by kernel_rfl) (fr_zip Y) (dl_cons (de_sl (de_var 0 rfl (.inl (by kernel_rfl))) do_none (do_some (de_neg de_int))) (dl_cons (de_sl (de_var 0 rfl (.inl (by kernel_rfl))) (do_some de_int) do_none) dl_nil))) (by kernel_rfl) (dg_tup rfl (dgs_cons (dg_name 2 (nd_is_set B) rfl (.inl (by kernel_rfl)) (.inr (by kernel_rfl))) (dgs_cons (dg_name 3 (nd_is_set B) rfl (.inl (by kernel_rfl)) (.inr (by kernel_rfl))) dgs_nil))) dts_nil (de_cmp c_lt (de_var 2 rfl (.inl (by kernel_rfl))) (de_var 3 rfl (.inl (by kernel_rfl)))) (by decide))) dl_nil)))))
theorem k_is_set : FkA B 1 "is_set" 1 [] m_is_set := by
  obtain ⟨fd, Fu⟩ := Y.c.def_ 0 (d := dd_is_set) rfl
  exact fk_of (ps := ["text"]) Fu (He.glo_ok Y.kin Y.ns (Y.c.fact 0 (f := .glo "is_set") rfl)) (fn_den 0 none Fu sc_is_set (fun _ h => nomatch h) (d_is_set Y)) (Fu.bindsN fun _ _ _ _ _ _ us hl => by match us, hl with | [_], _ => rfl)
end
theorem sc_within : FnScope ["one", "other", "sign"] ["one", "other"] (defScope s_within) := ⟨rfl, rfl, rfl, by decide +kernel, rfl, by decide +kernel, by decide +kernel⟩
section
variable {B : Bs} (Y : Hy B)
include Y
theorem d_within : DB (F_within B) (defBody s_within) g_within :=
  (db_one (ds_ret (de_all rfl (by kernel_rfl) (fr_all Y) (dl_cons (de_frz (df_lc [("sign", 2)] rfl (nd_within B) (di_any (de_var 0 rfl (.inl (by kernel_rfl)))) (by kernel_rfl) (dg_name 2 (nd_within B) rfl (.inl (by kernel_rfl)) (.inr (by kernel_rfl))) dts_nil (de_cmp c_in (de_var 2 rfl (.inl (by kernel_rfl))) (de_var 1 rfl (.inr (.inl (by kernel_rfl))))) (by decide))) dl_nil))))
theorem k_within : FkA B 1 "within" 2 [] m_within := by
  obtain ⟨fd, Fu⟩ := Y.c.def_ 1 (d := dd_within) rfl
  exact fk_of (ps := ["one", "other"]) Fu (He.glo_ok Y.kin Y.ns (Y.c.fact 1 (f := .glo "within") rfl)) (fn_den 0 none Fu sc_within (fun _ h => nomatch h) (d_within Y)) (Fu.bindsN fun _ _ _ _ _ _ us hl => by match us, hl with | [_, _], _ => rfl)
end
theorem sc_is_saying : FnScope ["saying", "columns", "word", "left", "right", "side"] ["saying", "columns"] (defScope s_is_saying) := ⟨rfl, rfl, rfl, by decide +kernel, rfl, by decide +kernel, by decide +kernel⟩
section
variable {B : Bs} (Y : Hy B)
include Y
theorem d_is_saying : DB (F_is_saying B) (defBody s_is_saying) g_is_saying :=
  (db_cons (ds_asg (de_var 0 rfl (.inl (by kernel_rfl))) (dg_tup rfl (dgs_cons (dg_name 2 (nd_is_saying B) rfl (.inl (by kernel_rfl)) (.inl rfl)) (dgs_cons (dg_name 3 (nd_is_saying B) rfl (.inl (by kernel_rfl)) (.inl rfl)) (dgs_cons (dg_name 4 (nd_is_saying B) rfl (.inl (by kernel_rfl)) (.inl rfl)) dgs_nil))))) (db_cons (ds_if (dt_notInKd (kd_SIGNS Y) (by kernel_rfl) (de_var 2 rfl (.inl (by kernel_rfl)))) (db_one (ds_ret de_bl)) db_nil) (db_one (ds_ret (de_all rfl (by kernel_rfl) (fr_all Y) (dl_cons (de_frz (df_lc [("side", 5)] rfl (nd_is_saying B) (di_any (de_tup (dl_cons (de_var 3 rfl (.inl (by kernel_rfl))) (dl_cons (de_var 4 rfl (.inl (by kernel_rfl))) dl_nil)))) (by kernel_rfl) (dg_name 5 (nd_is_saying B) rfl (.inl (by kernel_rfl)) (.inr (by kernel_rfl))) dts_nil (de_and (de_call (k_is_set Y) (show 1 ≤ 1 from by decide) (by kernel_rfl) (dl_cons (de_var 5 rfl (.inl (by kernel_rfl))) dl_nil)) (de_one (de_call (k_within Y) (show 1 ≤ 1 from by decide) (by kernel_rfl) (dl_cons (de_var 5 rfl (.inl (by kernel_rfl))) (dl_cons (de_var 1 rfl (.inr (.inl (by kernel_rfl)))) dl_nil))))) (by decide))) dl_nil))))))
theorem k_is_saying : FkA B 2 "is_saying" 2 [] m_is_saying := by
  obtain ⟨fd, Fu⟩ := Y.c.def_ 2 (d := dd_is_saying) rfl
  exact fk_of (ps := ["saying", "columns"]) Fu (He.glo_ok Y.kin Y.ns (Y.c.fact 2 (f := .glo "is_saying") rfl)) (fn_den 1 none Fu sc_is_saying (fun _ h => nomatch h) (d_is_saying Y)) (Fu.bindsN fun _ _ _ _ _ _ us hl => by match us, hl with | [_, _], _ => rfl)
end
theorem sc_Book___init__ : FnScope ["self", "columns", "sayings", "at", "saying", "known"] ["self", "columns", "sayings"] (defScope s_Book___init__) := ⟨rfl, rfl, rfl, by decide +kernel, rfl, by decide +kernel, by decide +kernel⟩
section
variable {B : Bs} (Y : Hy B)
include Y
theorem db_Book___init___0 : DB (F_Book___init__ B) (bodyAt (defBody s_Book___init__) [(.inl 1)]) b_Book___init___0 :=
  (db_one (ds_if (dt_not (dt_val (de_call (k_is_saying Y) (show 2 ≤ 4 from by decide) (by kernel_rfl) (dl_cons (de_var 4 rfl (.inl (by kernel_rfl))) (dl_cons (de_var 1 rfl (.inl (by kernel_rfl))) dl_nil))))) (db_one (ds_raise (xk_BadSaying Y) (show 3 + 1 ≤ 4 from by decide) rfl (by decide) (by kernel_rfl) (dl_cons (de_var 3 rfl (.inl (by kernel_rfl))) dl_nil))) db_nil))
theorem db_Book___init___1 : DB (F_Book___init__ B) (bodyAt (defBody s_Book___init__) [(.inl 3)]) b_Book___init___1 :=
  (db_one (ds_setd 5 rfl (.inl (by kernel_rfl)) (de_var 4 rfl (.inl (by kernel_rfl))) de_bl))
theorem d_Book___init__ : DB (F_Book___init__ B) (defBody s_Book___init__) g_Book___init__ :=
  (db_cons (ds_if (dt_w (dw_or (dt_not (dt_val (de_call (k_is_set Y) (show 1 ≤ 4 from by decide) (by kernel_rfl) (dl_cons (de_var 1 rfl (.inl (by kernel_rfl))) dl_nil)))) (dw_or1 (dt_not (dt_chain c_le c_le (con_LEAST Y rfl (by kernel_rfl)) (de_len (by kernel_rfl) (fr_len Y) (dl_cons (de_var 1 rfl (.inl (by kernel_rfl))) dl_nil)) (con_MOST Y rfl (by kernel_rfl))))))) (db_one (ds_raise0 (xk_BadColumns Y) (show 3 + 1 ≤ 4 from by decide) rfl (by kernel_rfl))) db_nil) (db_cons (ds_for rfl (di_enum (by kernel_rfl) (fr_enumerate Y) (dl_cons (de_var 2 rfl (.inl (by kernel_rfl))) dl_nil)) (dg_tup rfl (dgs_cons (dg_name 3 (nd_Book___init__ B) rfl (.inl (by kernel_rfl)) (.inl rfl)) (dgs_cons (dg_name 4 (nd_Book___init__ B) rfl (.inl (by kernel_rfl)) (.inl rfl)) dgs_nil))) (db_Book___init___0 Y)) (db_cons (ds_setF 5 (nd_Book___init__ B) rfl (.inl (by kernel_rfl)) (.inl rfl) df_dnewT) (db_cons (ds_for rfl (di_any (de_var 2 rfl (.inl (by kernel_rfl)))) (dg_name 4 (nd_Book___init__ B) rfl (.inl (by kernel_rfl)) (.inl rfl)) (db_Book___init___1 Y)) (db_cons (ds_if (dt_lend (dt_cmp c_gt (de_lenT (by kernel_rfl) (fr_len Y) (dl_cons (de_var 5 rfl (.inl (by kernel_rfl))) dl_nil)) (con_MOST_SAYINGS Y rfl (by kernel_rfl)))) (db_one (ds_raise (xk_Full Y) (show 3 + 1 ≤ 4 from by decide) rfl (by decide) (by kernel_rfl) (dl_cons (con_MOST_SAYINGS Y rfl (by kernel_rfl)) dl_nil))) db_nil) (db_cons (ds_self rfl (.inl (by kernel_rfl)) (ff_Book_letters Y) (de_var 1 rfl (.inl (by kernel_rfl)))) (db_one (ds_selfL rfl (.inl (by kernel_rfl)) (ff_Book_said Y) (df_lend (df_listT (by kernel_rfl) (fr_list Y) (dl_cons (de_var 5 rfl (.inl (by kernel_rfl))) dl_nil)))))))))))
theorem in_Book_2 : InA B 5 "Book" 2 [] m_Book___init__ := by
  obtain ⟨fd, Fu⟩ := Y.c.def_ 3 (d := dd_Book___init__) rfl
  exact inF_of (ps := ["self", "columns", "sayings"]) 2 (glo_Book Y) (by rw [Y.cls]; exact clsOf_mem (by decide +kernel)) (He.mkr_ok (Y.c.fact 42 (f := .mkr "Book") rfl)) (fn_init 4 "Book" Fu sc_Book___init__ (d_Book___init__ Y)) (binds_full (dvs := [.ref (He.dflAt ("Book", some "__init__") 0 B.K)]) Fu (List.cons_ne_nil _ _) fun _ _ _ _ _ _ _ us its hl hi => by match us, its, hl, hi with | [_, _, _], [_], _, _ => exact ⟨_, rfl, rfl⟩) rfl
end
theorem sc_Book_sayings : FnScope ["self"] ["self"] (defScope s_Book_sayings) := ⟨rfl, rfl, rfl, by decide +kernel, rfl, by decide +kernel, by decide +kernel⟩
section
variable {B : Bs} (Y : Hy B)
include Y
theorem d_Book_sayings : DB (F_Book_sayings B) (defBody s_Book_sayings) g_Book_sayings :=
  (db_one (ds_retF (df_list (by kernel_rfl) (fr_list Y) (dl_cons (de_fld (ff_Book_said Y) (de_var 0 rfl (.inl (by kernel_rfl)))) dl_nil))))
theorem k_Book_sayings : MkA B 1 "Book" "sayings" 1 [] m_Book_sayings := by
  obtain ⟨fd, Fu⟩ := Y.c.def_ 4 (d := dd_Book_sayings) rfl
  exact mkF_of (ps := ["self"]) (by rw [Y.cls]; exact clsOf_mem (by decide +kernel)) (He.cls_ok (Y.c.fact 41 (f := .cls "Book") rfl)) (He.meth_ok (Y.c.fact 45 (f := .meth "Book" "sayings") rfl)) (fn_den 0 none Fu sc_Book_sayings (fun _ h => nomatch h) (d_Book_sayings Y)) (Fu.bindsN fun _ _ _ _ _ _ us hl => by match us, hl with | [_], _ => rfl)
end
theorem sc__law_cells : FnScope ["_law_line", "_law_head_here", "_law_low", "_law_k"] ["_law_line", "_law_head_here", "_law_low"] (defScope s__law_cells) := ⟨rfl, rfl, rfl, by decide +kernel, rfl, by decide +kernel, by decide +kernel⟩
section
variable {B : Bs} (Y : Hy B)
include Y
theorem d__law_cells : DB (F__law_cells B) (defBody s__law_cells) g__law_cells :=
  (db_one (ds_ret (de_tuple (by kernel_rfl) (fr_tuple Y) (dl_cons (de_frz (df_lc [("_law_k", 3)] rfl (nd__law_cells B) (di_range1 (by kernel_rfl) (fr_range Y) (dl_cons (de_len (by kernel_rfl) (fr_len Y) (dl_cons (de_var 1 rfl (.inr (.inl (by kernel_rfl)))) dl_nil)) dl_nil)) (by kernel_rfl) (dg_name 3 (nd__law_cells B) rfl (.inl (by kernel_rfl)) (.inr (by kernel_rfl))) (dts_one (dt_cmp c_in (de_ix (de_var 1 rfl (.inr (.inl (by kernel_rfl)))) (de_var 3 rfl (.inl (by kernel_rfl)))) (de_var 2 rfl (.inr (.inl (by kernel_rfl)))))) (de_ix (de_var 0 rfl (.inr (.inl (by kernel_rfl)))) (de_var 3 rfl (.inl (by kernel_rfl)))) (by decide))) dl_nil))))
theorem k__law_cells : FkA B 1 "_law_cells" 3 [] m__law_cells := by
  obtain ⟨fd, Fu⟩ := Y.c.def_ 5 (d := dd__law_cells) rfl
  exact fk_of (ps := ["_law_line", "_law_head_here", "_law_low"]) Fu (He.glo_ok Y.kin Y.ns (Y.c.fact 3 (f := .glo "_law_cells") rfl)) (fn_den 0 none Fu sc__law_cells (fun _ h => nomatch h) (d__law_cells Y)) (Fu.bindsN fun _ _ _ _ _ _ us hl => by match us, hl with | [_, _, _], _ => rfl)
end
theorem sc__law_crossed : FnScope ["_law_one", "_law_other", "_law_head_here", "_law_taken", "_law_k"] ["_law_one", "_law_other", "_law_head_here", "_law_taken"] (defScope s__law_crossed) := ⟨rfl, rfl, rfl, by decide +kernel, rfl, by decide +kernel, by decide +kernel⟩
section
variable {B : Bs} (Y : Hy B)
include Y
theorem d__law_crossed : DB (F__law_crossed B) (defBody s__law_crossed) g__law_crossed :=
  (db_one (ds_ret (de_tuple (by kernel_rfl) (fr_tuple Y) (dl_cons (de_frz (df_lc [("_law_k", 4)] rfl (nd__law_crossed B) (di_range1 (by kernel_rfl) (fr_range Y) (dl_cons (de_len (by kernel_rfl) (fr_len Y) (dl_cons (de_var 2 rfl (.inr (.inl (by kernel_rfl)))) dl_nil)) dl_nil)) (by kernel_rfl) (dg_name 4 (nd__law_crossed B) rfl (.inl (by kernel_rfl)) (.inr (by kernel_rfl))) dts_nil (de_if (dt_cmp c_in (de_ix (de_var 2 rfl (.inr (.inl (by kernel_rfl)))) (de_var 4 rfl (.inl (by kernel_rfl)))) (de_var 3 rfl (.inr (.inl (by kernel_rfl))))) (de_ix (de_var 0 rfl (.inr (.inl (by kernel_rfl)))) (de_var 4 rfl (.inl (by kernel_rfl)))) (de_ix (de_var 1 rfl (.inr (.inl (by kernel_rfl)))) (de_var 4 rfl (.inl (by kernel_rfl))))) (by decide))) dl_nil))))
theorem k__law_crossed : FkA B 1 "_law_crossed" 4 [] m__law_crossed := by
  obtain ⟨fd, Fu⟩ := Y.c.def_ 6 (d := dd__law_crossed) rfl
  exact fk_of (ps := ["_law_one", "_law_other", "_law_head_here", "_law_taken"]) Fu (He.glo_ok Y.kin Y.ns (Y.c.fact 4 (f := .glo "_law_crossed") rfl)) (fn_den 0 none Fu sc__law_crossed (fun _ h => nomatch h) (d__law_crossed Y)) (Fu.bindsN fun _ _ _ _ _ _ us hl => by match us, hl with | [_, _, _, _], _ => rfl)
end
theorem sc__law_clash : FnScope ["_law_heap", "_law_head_here", "_law_saying_here", "_law_word", "_law_low", "_law_high", "_law_k", "_law_j", "_law_one", "_law_other", "_law_unlike_here", "_law_mix"] ["_law_heap", "_law_head_here", "_law_saying_here"] (defScope s__law_clash) := ⟨rfl, rfl, rfl, by decide +kernel, rfl, by decide +kernel, by decide +kernel⟩
section
variable {B : Bs} (Y : Hy B)
include Y
theorem db__law_clash_0 : DB (F__law_clash B) (bodyAt (defBody s__law_clash) [(.inl 1), (.inl 0)]) b__law_clash_0 :=
  (db_cons (ds_set 8 (nd__law_clash B) rfl (.inl (by kernel_rfl)) (.inl rfl) (de_ix (de_var 0 rfl (.inl (by kernel_rfl))) (de_var 6 rfl (.inl (by kernel_rfl))))) (db_cons (ds_set 9 (nd__law_clash B) rfl (.inl (by kernel_rfl)) (.inl rfl) (de_ix (de_var 0 rfl (.inl (by kernel_rfl))) (de_var 7 rfl (.inl (by kernel_rfl))))) (db_one (ds_if (dt_cmp c_eq (de_call (k__law_cells Y) (show 1 ≤ 1 from by decide) (by kernel_rfl) (dl_cons (de_var 8 rfl (.inl (by kernel_rfl))) (dl_cons (de_var 1 rfl (.inl (by kernel_rfl))) (dl_cons (de_var 4 rfl (.inl (by kernel_rfl))) dl_nil)))) (de_call (k__law_cells Y) (show 1 ≤ 1 from by decide) (by kernel_rfl) (dl_cons (de_var 9 rfl (.inl (by kernel_rfl))) (dl_cons (de_var 1 rfl (.inl (by kernel_rfl))) (dl_cons (de_var 4 rfl (.inl (by kernel_rfl))) dl_nil))))) (db_cons (ds_set 10 (nd__law_clash B) rfl (.inl (by kernel_rfl)) (.inl rfl) (de_cmp c_ne (de_call (k__law_cells Y) (show 1 ≤ 1 from by decide) (by kernel_rfl) (dl_cons (de_var 8 rfl (.inl (by kernel_rfl))) (dl_cons (de_var 1 rfl (.inl (by kernel_rfl))) (dl_cons (de_var 5 rfl (.inl (by kernel_rfl))) dl_nil)))) (de_call (k__law_cells Y) (show 1 ≤ 1 from by decide) (by kernel_rfl) (dl_cons (de_var 9 rfl (.inl (by kernel_rfl))) (dl_cons (de_var 1 rfl (.inl (by kernel_rfl))) (dl_cons (de_var 5 rfl (.inl (by kernel_rfl))) dl_nil)))))) (db_cons (ds_if (dt_w (dw_and (dt_cmp c_eq (de_var 3 rfl (.inl (by kernel_rfl))) de_str) (dw_and (dt_cmp c_gt (de_var 7 rfl (.inl (by kernel_rfl))) (de_var 6 rfl (.inl (by kernel_rfl)))) (dw_and1 (dt_val (de_var 10 rfl (.inl (by kernel_rfl)))))))) (db_one (ds_ret (de_tup (dl_cons (de_var 8 rfl (.inl (by kernel_rfl))) (dl_cons (de_var 9 rfl (.inl (by kernel_rfl))) dl_nil))))) db_nil) (db_cons (ds_set 11 (nd__law_clash B) rfl (.inl (by kernel_rfl)) (.inl rfl) (de_call (k__law_crossed Y) (show 1 ≤ 1 from by decide) (by kernel_rfl) (dl_cons (de_var 8 rfl (.inl (by kernel_rfl))) (dl_cons (de_var 9 rfl (.inl (by kernel_rfl))) (dl_cons (de_var 1 rfl (.inl (by kernel_rfl))) (dl_cons (de_op k_add (de_var 4 rfl (.inl (by kernel_rfl))) (de_var 5 rfl (.inl (by kernel_rfl)))) dl_nil)))))) (db_one (ds_if (dt_w (dw_and (dt_cmp c_eq (de_var 3 rfl (.inl (by kernel_rfl))) de_str) (dw_and1 (dt_cmp c_notIn (de_var 11 rfl (.inl (by kernel_rfl))) (de_var 0 rfl (.inl (by kernel_rfl))))))) (db_one (ds_ret (de_tup (dl_cons (de_var 8 rfl (.inl (by kernel_rfl))) (dl_cons (de_var 9 rfl (.inl (by kernel_rfl))) (dl_cons (de_var 11 rfl (.inl (by kernel_rfl))) dl_nil)))))) db_nil))))) db_nil))))
theorem db__law_clash_1 : DB (F__law_clash B) (bodyAt (defBody s__law_clash) [(.inl 1)]) b__law_clash_1 :=
  (db_one (ds_for rfl (di_range1 (by kernel_rfl) (fr_range Y) (dl_cons (de_len (by kernel_rfl) (fr_len Y) (dl_cons (de_var 0 rfl (.inl (by kernel_rfl))) dl_nil)) dl_nil)) (dg_name 7 (nd__law_clash B) rfl (.inl (by kernel_rfl)) (.inl rfl)) (db__law_clash_0 Y)))
theorem d__law_clash : DB (F__law_clash B) (defBody s__law_clash) g__law_clash :=
  (db_cons (ds_asg (de_var 2 rfl (.inl (by kernel_rfl))) (dg_tup rfl (dgs_cons (dg_name 3 (nd__law_clash B) rfl (.inl (by kernel_rfl)) (.inl rfl)) (dgs_cons (dg_name 4 (nd__law_clash B) rfl (.inl (by kernel_rfl)) (.inl rfl)) (dgs_cons (dg_name 5 (nd__law_clash B) rfl (.inl (by kernel_rfl)) (.inl rfl)) dgs_nil))))) (db_cons (ds_for rfl (di_range1 (by kernel_rfl) (fr_range Y) (dl_cons (de_len (by kernel_rfl) (fr_len Y) (dl_cons (de_var 0 rfl (.inl (by kernel_rfl))) dl_nil)) dl_nil)) (dg_name 6 (nd__law_clash B) rfl (.inl (by kernel_rfl)) (.inl rfl)) (db__law_clash_1 Y)) (db_one (ds_ret de_non))))
theorem k__law_clash : FkA B 2 "_law_clash" 3 [] m__law_clash := by
  obtain ⟨fd, Fu⟩ := Y.c.def_ 7 (d := dd__law_clash) rfl
  exact fk_of (ps := ["_law_heap", "_law_head_here", "_law_saying_here"]) Fu (He.glo_ok Y.kin Y.ns (Y.c.fact 5 (f := .glo "_law_clash") rfl)) (fn_den 1 none Fu sc__law_clash (fun _ h => nomatch h) (d__law_clash Y)) (Fu.bindsN fun _ _ _ _ _ _ us hl => by match us, hl with | [_, _, _], _ => rfl)
end
theorem sc__law_of : FnScope ["_law_head_here", "_law_signs", "_law_sign"] ["_law_head_here", "_law_signs"] (defScope s__law_of) := ⟨rfl, rfl, rfl, by decide +kernel, rfl, by decide +kernel, by decide +kernel⟩
section
variable {B : Bs} (Y : Hy B)
include Y
theorem d__law_of : DB (F__law_of B) (defBody s__law_of) g__law_of :=
  (db_one (ds_ret (de_join de_str (de_frz (df_lc [("_law_sign", 2)] rfl (nd__law_of B) (di_any (de_var 0 rfl (.inl (by kernel_rfl)))) (by kernel_rfl) (dg_name 2 (nd__law_of B) rfl (.inl (by kernel_rfl)) (.inr (by kernel_rfl))) (dts_one (dt_cmp c_in (de_var 2 rfl (.inl (by kernel_rfl))) (de_var 1 rfl (.inr (.inl (by kernel_rfl)))))) (de_var 2 rfl (.inl (by kernel_rfl))) (by decide))))))
theorem k__law_of : FkA B 1 "_law_of" 2 [] m__law_of := by
  obtain ⟨fd, Fu⟩ := Y.c.def_ 8 (d := dd__law_of) rfl
  exact fk_of (ps := ["_law_head_here", "_law_signs"]) Fu (He.glo_ok Y.kin Y.ns (Y.c.fact 6 (f := .glo "_law_of") rfl)) (fn_den 0 none Fu sc__law_of (fun _ h => nomatch h) (d__law_of Y)) (Fu.bindsN fun _ _ _ _ _ _ us hl => by match us, hl with | [_, _], _ => rfl)
end
theorem sc__law_cut_pair : FnScope ["_law_head_here", "_law_said_here", "_law_blocks_here", "_law_word", "_law_low", "_law_high", "_law_piece", "_law_block", "_law_inner"] ["_law_head_here", "_law_said_here", "_law_blocks_here"] (defScope s__law_cut_pair) := ⟨rfl, rfl, rfl, by decide +kernel, rfl, by decide +kernel, by decide +kernel⟩
section
variable {B : Bs} (Y : Hy B)
include Y
theorem db__law_cut_pair_0 : DB (F__law_cut_pair B) (bodyAt (defBody s__law_cut_pair) [(.inl 0), (.inl 0), (.inl 0)]) b__law_cut_pair_0 :=
  (db_cons (ds_set 8 (nd__law_cut_pair B) rfl (.inl (by kernel_rfl)) (.inl rfl) (de_call (k__law_of Y) (show 1 ≤ 1 from by decide) (by kernel_rfl) (dl_cons (de_var 7 rfl (.inl (by kernel_rfl))) (dl_cons (de_var 6 rfl (.inl (by kernel_rfl))) dl_nil)))) (db_one (ds_if (dt_w (dw_and (dt_cmp c_eq (de_call (k__law_of Y) (show 1 ≤ 1 from by decide) (by kernel_rfl) (dl_cons (de_var 7 rfl (.inl (by kernel_rfl))) (dl_cons (de_var 4 rfl (.inl (by kernel_rfl))) dl_nil))) de_str) (dw_and (dt_cmp c_ne (de_var 8 rfl (.inl (by kernel_rfl))) de_str) (dw_and1 (dt_cmp c_ne (de_var 8 rfl (.inl (by kernel_rfl))) (de_var 7 rfl (.inl (by kernel_rfl)))))))) (db_one (ds_ret (de_tup (dl_cons (de_var 7 rfl (.inl (by kernel_rfl))) (dl_cons (de_var 8 rfl (.inl (by kernel_rfl))) dl_nil))))) db_nil)))
theorem db__law_cut_pair_1 : DB (F__law_cut_pair B) (bodyAt (defBody s__law_cut_pair) [(.inl 0), (.inl 0)]) b__law_cut_pair_1 :=
  (db_one (ds_for rfl (di_any (de_var 2 rfl (.inl (by kernel_rfl)))) (dg_name 7 (nd__law_cut_pair B) rfl (.inl (by kernel_rfl)) (.inl rfl)) (db__law_cut_pair_0 Y)))
theorem db__law_cut_pair_2 : DB (F__law_cut_pair B) (bodyAt (defBody s__law_cut_pair) [(.inl 0)]) b__law_cut_pair_2 :=
  (db_one (ds_for rfl (di_any (de_if (dt_cmp c_eq (de_var 3 rfl (.inl (by kernel_rfl))) de_str) (de_frz (df_listA rfl (by kernel_rfl) (fr_list Y) (dl_cons (de_var 5 rfl (.inl (by kernel_rfl))) dl_nil))) (de_frz (df_lst (dl_cons (de_var 5 rfl (.inl (by kernel_rfl))) dl_nil))))) (dg_name 6 (nd__law_cut_pair B) rfl (.inl (by kernel_rfl)) (.inl rfl)) (db__law_cut_pair_1 Y)))
theorem d__law_cut_pair : DB (F__law_cut_pair B) (defBody s__law_cut_pair) g__law_cut_pair :=
  (db_cons (ds_for rfl (di_any (de_var 1 rfl (.inl (by kernel_rfl)))) (dg_tup rfl (dgs_cons (dg_name 3 (nd__law_cut_pair B) rfl (.inl (by kernel_rfl)) (.inl rfl)) (dgs_cons (dg_name 4 (nd__law_cut_pair B) rfl (.inl (by kernel_rfl)) (.inl rfl)) (dgs_cons (dg_name 5 (nd__law_cut_pair B) rfl (.inl (by kernel_rfl)) (.inl rfl)) dgs_nil)))) (db__law_cut_pair_2 Y)) (db_one (ds_ret de_non)))
theorem k__law_cut_pair : FkA B 2 "_law_cut_pair" 3 [] m__law_cut_pair := by
  obtain ⟨fd, Fu⟩ := Y.c.def_ 9 (d := dd__law_cut_pair) rfl
  exact fk_of (ps := ["_law_head_here", "_law_said_here", "_law_blocks_here"]) Fu (He.glo_ok Y.kin Y.ns (Y.c.fact 7 (f := .glo "_law_cut_pair") rfl)) (fn_den 1 none Fu sc__law_cut_pair (fun _ h => nomatch h) (d__law_cut_pair Y)) (Fu.bindsN fun _ _ _ _ _ _ us hl => by match us, hl with | [_, _, _], _ => rfl)
end
theorem sc__law_off : FnScope ["_law_one", "_law_other", "_law_sign"] ["_law_one", "_law_other"] (defScope s__law_off) := ⟨rfl, rfl, rfl, by decide +kernel, rfl, by decide +kernel, by decide +kernel⟩
section
variable {B : Bs} (Y : Hy B)
include Y
theorem d__law_off : DB (F__law_off B) (defBody s__law_off) g__law_off :=
  (db_one (ds_ret (de_join de_str (de_frz (df_lc [("_law_sign", 2)] rfl (nd__law_off B) (di_any (de_var 0 rfl (.inl (by kernel_rfl)))) (by kernel_rfl) (dg_name 2 (nd__law_off B) rfl (.inl (by kernel_rfl)) (.inr (by kernel_rfl))) (dts_one (dt_cmp c_notIn (de_var 2 rfl (.inl (by kernel_rfl))) (de_var 1 rfl (.inr (.inl (by kernel_rfl)))))) (de_var 2 rfl (.inl (by kernel_rfl))) (by decide))))))
theorem k__law_off : FkA B 1 "_law_off" 2 [] m__law_off := by
  obtain ⟨fd, Fu⟩ := Y.c.def_ 10 (d := dd__law_off) rfl
  exact fk_of (ps := ["_law_one", "_law_other"]) Fu (He.glo_ok Y.kin Y.ns (Y.c.fact 8 (f := .glo "_law_off") rfl)) (fn_den 0 none Fu sc__law_off (fun _ h => nomatch h) (d__law_off Y)) (Fu.bindsN fun _ _ _ _ _ _ us hl => by match us, hl with | [_, _], _ => rfl)
end
theorem sc__law_blocks : FnScope ["_law_head_here", "_law_said_here", "_law_low", "_law_rest", "_law_blocks_here", "_law_pair", "_law_block", "_law_inner", "_law_one"] ["_law_head_here", "_law_said_here", "_law_low"] (defScope s__law_blocks) := ⟨rfl, rfl, rfl, by decide +kernel, rfl, by decide +kernel, by decide +kernel⟩
section
variable {B : Bs} (Y : Hy B)
include Y
theorem db__law_blocks_0 : DB (F__law_blocks B) (bodyAt (defBody s__law_blocks) [(.inl 4)]) b__law_blocks_0 :=
  (db_cons (ds_asg (de_var 5 rfl (.inl (by kernel_rfl))) (dg_tup rfl (dgs_cons (dg_name 6 (nd__law_blocks B) rfl (.inr (by kernel_rfl)) (.inl rfl)) (dgs_cons (dg_name 7 (nd__law_blocks B) rfl (.inl (by kernel_rfl)) (.inl rfl)) dgs_nil)))) (db_cons (ds_set 4 (nd__law_blocks B) rfl (.inl (by kernel_rfl)) (.inl rfl) (de_op k_add (de_frz (df_lc [("_law_one", 8)] rfl (nd__law_blocks B) (di_any (de_var 4 rfl (.inl (by kernel_rfl)))) (by kernel_rfl) (dg_name 8 (nd__law_blocks B) rfl (.inl (by kernel_rfl)) (.inr (by kernel_rfl))) (dts_one (dt_cmp c_ne (de_var 8 rfl (.inl (by kernel_rfl))) (de_var 6 rfl (.inr (.inl (by kernel_rfl)))))) (de_var 8 rfl (.inl (by kernel_rfl))) (by decide))) (de_frz (df_lst (dl_cons (de_var 7 rfl (.inl (by kernel_rfl))) (dl_cons (de_call (k__law_off Y) (show 1 ≤ 2 from by decide) (by kernel_rfl) (dl_cons (de_var 6 rfl (.inr (.inl (by kernel_rfl)))) (dl_cons (de_var 7 rfl (.inl (by kernel_rfl))) dl_nil))) dl_nil)))))) (db_one (ds_set 5 (nd__law_blocks B) rfl (.inl (by kernel_rfl)) (.inl rfl) (de_call (k__law_cut_pair Y) (show 2 ≤ 2 from by decide) (by kernel_rfl) (dl_cons (de_var 0 rfl (.inl (by kernel_rfl))) (dl_cons (de_var 1 rfl (.inl (by kernel_rfl))) (dl_cons (de_var 4 rfl (.inl (by kernel_rfl))) dl_nil))))))))
theorem d__law_blocks : DB (F__law_blocks B) (defBody s__law_blocks) g__law_blocks :=
  (db_cons (ds_set 3 (nd__law_blocks B) rfl (.inl (by kernel_rfl)) (.inl rfl) (de_call (k__law_off Y) (show 1 ≤ 2 from by decide) (by kernel_rfl) (dl_cons (de_var 0 rfl (.inl (by kernel_rfl))) (dl_cons (de_var 2 rfl (.inl (by kernel_rfl))) dl_nil)))) (db_cons (ds_if (dt_cmp c_eq (de_var 3 rfl (.inl (by kernel_rfl))) de_str) (db_one (ds_retF (df_lst dl_nil))) db_nil) (db_cons (ds_set 4 (nd__law_blocks B) rfl (.inl (by kernel_rfl)) (.inl rfl) (de_frz (df_lst (dl_cons (de_var 3 rfl (.inl (by kernel_rfl))) dl_nil)))) (db_cons (ds_set 5 (nd__law_blocks B) rfl (.inl (by kernel_rfl)) (.inl rfl) (de_call (k__law_cut_pair Y) (show 2 ≤ 2 from by decide) (by kernel_rfl) (dl_cons (de_var 0 rfl (.inl (by kernel_rfl))) (dl_cons (de_var 1 rfl (.inl (by kernel_rfl))) (dl_cons (de_var 4 rfl (.inl (by kernel_rfl))) dl_nil))))) (db_cons (ds_while (dt_cmp c_isNot (de_var 5 rfl (.inl (by kernel_rfl))) de_non) (db__law_blocks_0 Y)) (db_one (ds_retF (df_sorted (by kernel_rfl) (fr_sorted Y) (dl_cons (de_var 4 rfl (.inl (by kernel_rfl))) dl_nil)))))))))
theorem k__law_blocks : FkA B 3 "_law_blocks" 3 [] m__law_blocks := by
  obtain ⟨fd, Fu⟩ := Y.c.def_ 11 (d := dd__law_blocks) rfl
  exact fk_of (ps := ["_law_head_here", "_law_said_here", "_law_low"]) Fu (He.glo_ok Y.kin Y.ns (Y.c.fact 9 (f := .glo "_law_blocks") rfl)) (fn_den 2 none Fu sc__law_blocks (fun _ h => nomatch h) (d__law_blocks Y)) (Fu.bindsN fun _ _ _ _ _ _ us hl => by match us, hl with | [_, _, _], _ => rfl)
end
theorem sc__law_in : FnScope ["_law_one", "_law_other", "_law_sign"] ["_law_one", "_law_other"] (defScope s__law_in) := ⟨rfl, rfl, rfl, by decide +kernel, rfl, by decide +kernel, by decide +kernel⟩
section
variable {B : Bs} (Y : Hy B)
include Y
theorem d__law_in : DB (F__law_in B) (defBody s__law_in) g__law_in :=
  (db_one (ds_ret (de_all rfl (by kernel_rfl) (fr_all Y) (dl_cons (de_frz (df_lc [("_law_sign", 2)] rfl (nd__law_in B) (di_any (de_var 0 rfl (.inl (by kernel_rfl)))) (by kernel_rfl) (dg_name 2 (nd__law_in B) rfl (.inl (by kernel_rfl)) (.inr (by kernel_rfl))) dts_nil (de_cmp c_in (de_var 2 rfl (.inl (by kernel_rfl))) (de_var 1 rfl (.inr (.inl (by kernel_rfl))))) (by decide))) dl_nil))))
theorem k__law_in : FkA B 1 "_law_in" 2 [] m__law_in := by
  obtain ⟨fd, Fu⟩ := Y.c.def_ 12 (d := dd__law_in) rfl
  exact fk_of (ps := ["_law_one", "_law_other"]) Fu (He.glo_ok Y.kin Y.ns (Y.c.fact 10 (f := .glo "_law_in") rfl)) (fn_den 0 none Fu sc__law_in (fun _ h => nomatch h) (d__law_in Y)) (Fu.bindsN fun _ _ _ _ _ _ us hl => by match us, hl with | [_, _], _ => rfl)
end
theorem sc__law_tells : FnScope ["_law_head_here", "_law_said_here", "_law_low", "_law_blocks_here", "_law_sure", "_law_word", "_law_left", "_law_right", "_law_sign"] ["_law_head_here", "_law_said_here", "_law_low"] (defScope s__law_tells) := ⟨rfl, rfl, rfl, by decide +kernel, rfl, by decide +kernel, by decide +kernel⟩
section
variable {B : Bs} (Y : Hy B)
include Y
theorem db__law_tells_0 : DB (F__law_tells B) (bodyAt (defBody s__law_tells) [(.inl 2), (.inl 0), (.inl 0)]) b__law_tells_0 :=
  (db_one (ds_if (dt_cmp c_in (de_var 8 rfl (.inl (by kernel_rfl))) (de_var 3 rfl (.inl (by kernel_rfl)))) (db_one (ds_set 4 (nd__law_tells B) rfl (.inl (by kernel_rfl)) (.inl rfl) (de_op k_add (de_var 4 rfl (.inl (by kernel_rfl))) (de_var 8 rfl (.inl (by kernel_rfl)))))) db_nil))
theorem db__law_tells_1 : DB (F__law_tells B) (bodyAt (defBody s__law_tells) [(.inl 2)]) b__law_tells_1 :=
  (db_one (ds_if (dt_cmp c_eq (de_var 5 rfl (.inl (by kernel_rfl))) de_str) (db_one (ds_for rfl (di_any (de_call (k__law_off Y) (show 1 ≤ 3 from by decide) (by kernel_rfl) (dl_cons (de_var 7 rfl (.inl (by kernel_rfl))) (dl_cons (de_var 6 rfl (.inl (by kernel_rfl))) dl_nil)))) (dg_name 8 (nd__law_tells B) rfl (.inl (by kernel_rfl)) (.inl rfl)) (db__law_tells_0 Y))) db_nil))
theorem d__law_tells : DB (F__law_tells B) (defBody s__law_tells) g__law_tells :=
  (db_cons (ds_set 3 (nd__law_tells B) rfl (.inl (by kernel_rfl)) (.inl rfl) (de_call (k__law_blocks Y) (show 3 ≤ 3 from by decide) (by kernel_rfl) (dl_cons (de_var 0 rfl (.inl (by kernel_rfl))) (dl_cons (de_var 1 rfl (.inl (by kernel_rfl))) (dl_cons (de_var 2 rfl (.inl (by kernel_rfl))) dl_nil))))) (db_cons (ds_set 4 (nd__law_tells B) rfl (.inl (by kernel_rfl)) (.inl rfl) (de_var 2 rfl (.inl (by kernel_rfl)))) (db_cons (ds_for rfl (di_any (de_var 1 rfl (.inl (by kernel_rfl)))) (dg_tup rfl (dgs_cons (dg_name 5 (nd__law_tells B) rfl (.inl (by kernel_rfl)) (.inl rfl)) (dgs_cons (dg_name 6 (nd__law_tells B) rfl (.inl (by kernel_rfl)) (.inl rfl)) (dgs_cons (dg_name 7 (nd__law_tells B) rfl (.inl (by kernel_rfl)) (.inl rfl)) dgs_nil)))) (db__law_tells_1 Y)) (db_one (ds_retC (k__law_of Y) (show 1 ≤ 3 from by decide) (by kernel_rfl) (dl_cons (de_var 0 rfl (.inl (by kernel_rfl))) (dl_cons (de_var 4 rfl (.inl (by kernel_rfl))) dl_nil)))))))
theorem k__law_tells : FkA B 4 "_law_tells" 3 [] m__law_tells := by
  obtain ⟨fd, Fu⟩ := Y.c.def_ 13 (d := dd__law_tells) rfl
  exact fk_of (ps := ["_law_head_here", "_law_said_here", "_law_low"]) Fu (He.glo_ok Y.kin Y.ns (Y.c.fact 11 (f := .glo "_law_tells") rfl)) (fn_den 3 none Fu sc__law_tells (fun _ h => nomatch h) (d__law_tells Y)) (Fu.bindsN fun _ _ _ _ _ _ us hl => by match us, hl with | [_, _, _], _ => rfl)
end
theorem sc__law_follows : FnScope ["_law_head_here", "_law_said_here", "_law_saying_here", "_law_word", "_law_low", "_law_high", "_law_block"] ["_law_head_here", "_law_said_here", "_law_saying_here"] (defScope s__law_follows) := ⟨rfl, rfl, rfl, by decide +kernel, rfl, by decide +kernel, by decide +kernel⟩
section
variable {B : Bs} (Y : Hy B)
include Y
theorem d__law_follows : DB (F__law_follows B) (defBody s__law_follows) g__law_follows :=
  (db_cons (ds_asg (de_var 2 rfl (.inl (by kernel_rfl))) (dg_tup rfl (dgs_cons (dg_name 3 (nd__law_follows B) rfl (.inl (by kernel_rfl)) (.inl rfl)) (dgs_cons (dg_name 4 (nd__law_follows B) rfl (.inl (by kernel_rfl)) (.inl rfl)) (dgs_cons (dg_name 5 (nd__law_follows B) rfl (.inr (by kernel_rfl)) (.inl rfl)) dgs_nil))))) (db_cons (ds_if (dt_cmp c_eq (de_var 3 rfl (.inl (by kernel_rfl))) de_str) (db_one (ds_retC (k__law_in Y) (show 1 ≤ 4 from by decide) (by kernel_rfl) (dl_cons (de_var 5 rfl (.inr (.inl (by kernel_rfl)))) (dl_cons (de_call (k__law_tells Y) (show 4 ≤ 4 from by decide) (by kernel_rfl) (dl_cons (de_var 0 rfl (.inl (by kernel_rfl))) (dl_cons (de_var 1 rfl (.inl (by kernel_rfl))) (dl_cons (de_var 4 rfl (.inl (by kernel_rfl))) dl_nil)))) dl_nil)))) db_nil) (db_one (ds_ret (de_all rfl (by kernel_rfl) (fr_all Y) (dl_cons (de_frz (df_lc [("_law_block", 6)] rfl (nd__law_follows B) (di_any (de_call (k__law_blocks Y) (show 3 ≤ 4 from by decide) (by kernel_rfl) (dl_cons (de_var 0 rfl (.inl (by kernel_rfl))) (dl_cons (de_var 1 rfl (.inl (by kernel_rfl))) (dl_cons (de_var 4 rfl (.inl (by kernel_rfl))) dl_nil))))) (by kernel_rfl) (dg_name 6 (nd__law_follows B) rfl (.inl (by kernel_rfl)) (.inr (by kernel_rfl))) dts_nil (de_cmp c_inT (de_call (k__law_of Y) (show 1 ≤ 4 from by decide) (by kernel_rfl) (dl_cons (de_var 6 rfl (.inl (by kernel_rfl))) (dl_cons (de_var 5 rfl (.inr (.inl (by kernel_rfl)))) dl_nil))) (de_tup (dl_cons de_str (dl_cons (de_var 6 rfl (.inl (by kernel_rfl))) dl_nil)))) (by decide))) dl_nil))))))
theorem k__law_follows : FkA B 5 "_law_follows" 3 [] m__law_follows := by
  obtain ⟨fd, Fu⟩ := Y.c.def_ 14 (d := dd__law_follows) rfl
  exact fk_of (ps := ["_law_head_here", "_law_said_here", "_law_saying_here"]) Fu (He.glo_ok Y.kin Y.ns (Y.c.fact 12 (f := .glo "_law_follows") rfl)) (fn_den 4 none Fu sc__law_follows (fun _ h => nomatch h) (d__law_follows Y)) (Fu.bindsN fun _ _ _ _ _ _ us hl => by match us, hl with | [_, _, _], _ => rfl)
end
theorem sc__law_draw : FnScope ["_law_d", "_law_many", "_law_cell", "_law_got"] ["_law_d", "_law_many"] (defScope s__law_draw) := ⟨rfl, rfl, rfl, by decide +kernel, rfl, by decide +kernel, by decide +kernel⟩
section
variable {B : Bs} (Y : Hy B)
include Y
theorem d__law_draw : DB (F__law_draw B) (defBody s__law_draw) g__law_draw :=
  (db_cons (ds_if (dt_cmp c_gt (de_ix (de_var 0 rfl (.inl (by kernel_rfl))) de_int) de_int) (db_cons (ds_set 3 (nd__law_draw B) rfl (.inl (by kernel_rfl)) (.inl rfl) (de_op k_mod (de_ix (de_var 0 rfl (.inl (by kernel_rfl))) de_int) (de_var 1 rfl (.inl (by kernel_rfl))))) (db_cons (ds_wd 0 rfl (.inl (by kernel_rfl)) (de_op k_div (de_ix (de_var 0 rfl (.inl (by kernel_rfl))) de_int) (de_var 1 rfl (.inl (by kernel_rfl)))) (by decide)) (db_one (ds_ret (de_var 3 rfl (.inl (by kernel_rfl))))))) db_nil) (db_cons (ds_set 2 (nd__law_draw B) rfl (.inl (by kernel_rfl)) (.inl rfl) (de_if (dt_cmp c_gt (de_len (by kernel_rfl) (fr_len Y) (dl_cons (de_ix (de_var 0 rfl (.inl (by kernel_rfl))) de_int) dl_nil)) de_int) (de_ix (de_ix (de_var 0 rfl (.inl (by kernel_rfl))) de_int) (de_op k_mod (de_ix (de_var 0 rfl (.inl (by kernel_rfl))) de_int) (de_len (by kernel_rfl) (fr_len Y) (dl_cons (de_ix (de_var 0 rfl (.inl (by kernel_rfl))) de_int) dl_nil)))) de_int)) (db_cons (ds_wd 0 rfl (.inl (by kernel_rfl)) (de_op k_add (de_ix (de_var 0 rfl (.inl (by kernel_rfl))) de_int) de_int) (by decide)) (db_cons (ds_if (dt_cmp c_ge (de_abs (by kernel_rfl) (fr_abs Y) (dl_cons (de_var 2 rfl (.inl (by kernel_rfl))) dl_nil)) (de_op k_pow de_int de_int)) (db_cons (ds_wd 0 rfl (.inl (by kernel_rfl)) (de_op k_div (de_abs (by kernel_rfl) (fr_abs Y) (dl_cons (de_var 2 rfl (.inl (by kernel_rfl))) dl_nil)) (de_var 1 rfl (.inl (by kernel_rfl)))) (by decide)) (db_one (ds_ret (de_op k_mod (de_abs (by kernel_rfl) (fr_abs Y) (dl_cons (de_var 2 rfl (.inl (by kernel_rfl))) dl_nil)) (de_var 1 rfl (.inl (by kernel_rfl))))))) db_nil) (db_cons (ds_wd 0 rfl (.inl (by kernel_rfl)) (de_op k_mod (de_op k_add (de_op k_add (de_op k_mul (de_ix (de_var 0 rfl (.inl (by kernel_rfl))) de_int) de_int) (de_op k_mod (de_var 2 rfl (.inl (by kernel_rfl))) de_int)) (de_ix (de_var 0 rfl (.inl (by kernel_rfl))) de_int)) de_int) (by decide)) (db_one (ds_ret (de_op k_mod (de_op k_div (de_ix (de_var 0 rfl (.inl (by kernel_rfl))) de_int) de_int) (de_var 1 rfl (.inl (by kernel_rfl)))))))))))
theorem k__law_draw : FkA B 1 "_law_draw" 2 [] m__law_draw := by
  obtain ⟨fd, Fu⟩ := Y.c.def_ 15 (d := dd__law_draw) rfl
  exact fk_of (ps := ["_law_d", "_law_many"]) Fu (He.glo_ok Y.kin Y.ns (Y.c.fact 13 (f := .glo "_law_draw") rfl)) (fn_den 0 none Fu sc__law_draw (fun _ h => nomatch h) (d__law_draw Y)) (Fu.bindsN fun _ _ _ _ _ _ us hl => by match us, hl with | [_, _], _ => rfl)
end
theorem sc__law_letters : FnScope [] [] (defScope s__law_letters) := ⟨rfl, rfl, rfl, by decide +kernel, rfl, by decide +kernel, by decide +kernel⟩
section
variable {B : Bs} (Y : Hy B)
include Y
theorem d__law_letters : DB (F__law_letters B) (defBody s__law_letters) g__law_letters :=
  (db_one (ds_ret de_str))
theorem k__law_letters : FkA B 1 "_law_letters" 0 [] m__law_letters := by
  obtain ⟨fd, Fu⟩ := Y.c.def_ 16 (d := dd__law_letters) rfl
  exact fk_of (ps := []) Fu (He.glo_ok Y.kin Y.ns (Y.c.fact 14 (f := .glo "_law_letters") rfl)) (fn_den 0 none Fu sc__law_letters (fun _ h => nomatch h) (d__law_letters Y)) (Fu.bindsN fun _ _ _ _ _ _ us hl => by match us, hl with | [], _ => rfl)
end
theorem sc__law_head_of : FnScope ["_law_d", "_law_many", "_law_head_here", "_law_at", "_law_spare_signs", "_law_k", "_law_skip"] ["_law_d", "_law_many"] (defScope s__law_head_of) := ⟨rfl, rfl, rfl, by decide +kernel, rfl, by decide +kernel, by decide +kernel⟩
section
variable {B : Bs} (Y : Hy B)
include Y
theorem db__law_head_of_0 : DB (F__law_head_of B) (bodyAt (defBody s__law_head_of) [(.inl 1)]) b__law_head_of_0 :=
  (db_cons (ds_set 6 (nd__law_head_of B) rfl (.inl (by kernel_rfl)) (.inl rfl) (de_call (k__law_draw Y) (show 1 ≤ 1 from by decide) (by kernel_rfl) (dl_cons (de_var 0 rfl (.inl (by kernel_rfl))) (dl_cons (de_op k_add (de_if (dt_cmp c_eq (de_var 5 rfl (.inl (by kernel_rfl))) de_int) (de_var 4 rfl (.inl (by kernel_rfl))) (de_min2 rfl (by kernel_rfl) (fr_min Y) (dl_cons (de_var 4 rfl (.inl (by kernel_rfl))) (dl_cons de_int dl_nil)))) de_int) dl_nil)))) (db_cons (ds_set 4 (nd__law_head_of B) rfl (.inl (by kernel_rfl)) (.inl rfl) (de_op k_sub (de_var 4 rfl (.inl (by kernel_rfl))) (de_var 6 rfl (.inl (by kernel_rfl))))) (db_cons (ds_set 2 (nd__law_head_of B) rfl (.inl (by kernel_rfl)) (.inl rfl) (de_op k_add (de_var 2 rfl (.inl (by kernel_rfl))) (de_ix (de_call0 (k__law_letters Y) (show 1 ≤ 1 from by decide) (by kernel_rfl)) (de_op k_add (de_var 3 rfl (.inl (by kernel_rfl))) (de_var 6 rfl (.inl (by kernel_rfl))))))) (db_one (ds_set 3 (nd__law_head_of B) rfl (.inl (by kernel_rfl)) (.inl rfl) (de_op k_add (de_op k_add (de_var 3 rfl (.inl (by kernel_rfl))) (de_var 6 rfl (.inl (by kernel_rfl)))) de_int))))))
theorem d__law_head_of : DB (F__law_head_of B) (defBody s__law_head_of) g__law_head_of :=
  (db_cons (ds_par3 2 3 4 rfl (nd__law_head_of B) rfl rfl rfl (by decide) (by decide) (by decide) (by kernel_rfl) (by kernel_rfl) (by kernel_rfl) (dl_cons de_str (dl_cons de_int (dl_cons (de_op k_sub de_int (de_var 1 rfl (.inl (by kernel_rfl)))) dl_nil))) (fun env h => by obtain ⟨⟩ := env; cases h; rfl)) (db_cons (ds_for rfl (di_range1 (by kernel_rfl) (fr_range Y) (dl_cons (de_var 1 rfl (.inl (by kernel_rfl))) dl_nil)) (dg_name 5 (nd__law_head_of B) rfl (.inl (by kernel_rfl)) (.inl rfl)) (db__law_head_of_0 Y)) (db_one (ds_ret (de_var 2 rfl (.inl (by kernel_rfl)))))))
theorem k__law_head_of : FkA B 2 "_law_head_of" 2 [] m__law_head_of := by
  obtain ⟨fd, Fu⟩ := Y.c.def_ 17 (d := dd__law_head_of) rfl
  exact fk_of (ps := ["_law_d", "_law_many"]) Fu (He.glo_ok Y.kin Y.ns (Y.c.fact 15 (f := .glo "_law_head_of") rfl)) (fn_den 1 none Fu sc__law_head_of (fun _ h => nomatch h) (d__law_head_of Y)) (Fu.bindsN fun _ _ _ _ _ _ us hl => by match us, hl with | [_, _], _ => rfl)
end
theorem sc__law_head : FnScope ["_law_d"] ["_law_d"] (defScope s__law_head) := ⟨rfl, rfl, rfl, by decide +kernel, rfl, by decide +kernel, by decide +kernel⟩
section
variable {B : Bs} (Y : Hy B)
include Y
theorem d__law_head : DB (F__law_head B) (defBody s__law_head) g__law_head :=
  (db_one (ds_retC (k__law_head_of Y) (show 2 ≤ 2 from by decide) (by kernel_rfl) (dl_cons (de_var 0 rfl (.inl (by kernel_rfl))) (dl_cons (de_op k_add de_int (de_call (k__law_draw Y) (show 1 ≤ 2 from by decide) (by kernel_rfl) (dl_cons (de_var 0 rfl (.inl (by kernel_rfl))) (dl_cons (de_ix (de_frz (df_lst (dl_cons de_int (dl_cons de_int (dl_cons de_int dl_nil))))) (de_call (k__law_draw Y) (show 1 ≤ 2 from by decide) (by kernel_rfl) (dl_cons (de_var 0 rfl (.inl (by kernel_rfl))) (dl_cons de_int dl_nil)))) dl_nil)))) dl_nil))))
theorem k__law_head : FkA B 3 "_law_head" 1 [] m__law_head := by
  obtain ⟨fd, Fu⟩ := Y.c.def_ 18 (d := dd__law_head) rfl
  exact fk_of (ps := ["_law_d"]) Fu (He.glo_ok Y.kin Y.ns (Y.c.fact 16 (f := .glo "_law_head") rfl)) (fn_den 2 none Fu sc__law_head (fun _ h => nomatch h) (d__law_head Y)) (Fu.bindsN fun _ _ _ _ _ _ us hl => by match us, hl with | [_], _ => rfl)
end
theorem sc__law_rising : FnScope ["_law_heap", "_law_line"] ["_law_heap"] (defScope s__law_rising) := ⟨rfl, rfl, rfl, by decide +kernel, rfl, by decide +kernel, by decide +kernel⟩
section
variable {B : Bs} (Y : Hy B)
include Y
theorem d__law_rising : DB (F__law_rising B) (defBody s__law_rising) g__law_rising :=
  (db_one (ds_retF (df_srtST rfl (by kernel_rfl) (fr_sorted Y) (by kernel_rfl) (fr_set Y) (dl_cons (de_frz (df_lc [("_law_line", 1)] rfl (nd__law_rising B) (di_any (de_var 0 rfl (.inl (by kernel_rfl)))) (by kernel_rfl) (dg_name 1 (nd__law_rising B) rfl (.inl (by kernel_rfl)) (.inr (by kernel_rfl))) dts_nil (de_tuple (by kernel_rfl) (fr_tuple Y) (dl_cons (de_var 1 rfl (.inl (by kernel_rfl))) dl_nil)) (by decide))) dl_nil))))
theorem k__law_rising : FkA B 1 "_law_rising" 1 [] m__law_rising := by
  obtain ⟨fd, Fu⟩ := Y.c.def_ 19 (d := dd__law_rising) rfl
  exact fk_of (ps := ["_law_heap"]) Fu (He.glo_ok Y.kin Y.ns (Y.c.fact 17 (f := .glo "_law_rising") rfl)) (fn_den 0 none Fu sc__law_rising (fun _ h => nomatch h) (d__law_rising Y)) (Fu.bindsN fun _ _ _ _ _ _ us hl => by match us, hl with | [_], _ => rfl)
end
theorem sc__law_whole : FnScope ["_law_x"] ["_law_x"] (defScope s__law_whole) := ⟨rfl, rfl, rfl, by decide +kernel, rfl, by decide +kernel, by decide +kernel⟩
section
variable {B : Bs} (Y : Hy B)
include Y
theorem d__law_whole : DB (F__law_whole B) (defBody s__law_whole) g__law_whole :=
  (db_one (ds_ret (de_and (de_isi (de_var 0 rfl (.inl (by kernel_rfl))) (by kernel_rfl) (fr_isinstance Y) (by kernel_rfl) (fr_int Y) (by kernel_rfl)) (de_one (de_not (de_isi (de_var 0 rfl (.inl (by kernel_rfl))) (by kernel_rfl) (fr_isinstance Y) (by kernel_rfl) (fr_bool Y) (by kernel_rfl)))))))
theorem k__law_whole : FkA B 1 "_law_whole" 1 [] m__law_whole := by
  obtain ⟨fd, Fu⟩ := Y.c.def_ 20 (d := dd__law_whole) rfl
  exact fk_of (ps := ["_law_x"]) Fu (He.glo_ok Y.kin Y.ns (Y.c.fact 18 (f := .glo "_law_whole") rfl)) (fn_den 0 none Fu sc__law_whole (fun _ h => nomatch h) (d__law_whole Y)) (Fu.bindsN fun _ _ _ _ _ _ us hl => by match us, hl with | [_], _ => rfl)
end
theorem sc__law_is_table : FnScope ["_law_x", "_law_many", "_law_line", "_law_good", "_law_cell"] ["_law_x", "_law_many"] (defScope s__law_is_table) := ⟨rfl, rfl, rfl, by decide +kernel, rfl, by decide +kernel, by decide +kernel⟩
section
variable {B : Bs} (Y : Hy B)
include Y
theorem db__law_is_table_0 : DB (F__law_is_table B) (bodyAt (defBody s__law_is_table) [(.inl 1)]) b__law_is_table_0 :=
  (db_cons (ds_set 3 (nd__law_is_table B) rfl (.inl (by kernel_rfl)) (.inl rfl) (de_and (de_isi (de_var 2 rfl (.inl (by kernel_rfl))) (by kernel_rfl) (fr_isinstance Y) (by kernel_rfl) (fr_tuple Y) (by kernel_rfl)) (de_one (de_cmp c_eq (de_len (by kernel_rfl) (fr_len Y) (dl_cons (de_var 2 rfl (.inl (by kernel_rfl))) dl_nil)) (de_var 1 rfl (.inl (by kernel_rfl))))))) (db_one (ds_if (dt_w (dw_or (dt_not (dt_val (de_var 3 rfl (.inl (by kernel_rfl))))) (dw_or1 (dt_not (dt_val (de_all rfl (by kernel_rfl) (fr_all Y) (dl_cons (de_frz (df_lc [("_law_cell", 4)] rfl (nd__law_is_table B) (di_any (de_var 2 rfl (.inl (by kernel_rfl)))) (by kernel_rfl) (dg_name 4 (nd__law_is_table B) rfl (.inl (by kernel_rfl)) (.inr (by kernel_rfl))) dts_nil (de_and (de_call (k__law_whole Y) (show 1 ≤ 1 from by decide) (by kernel_rfl) (dl_cons (de_var 4 rfl (.inl (by kernel_rfl))) dl_nil)) (de_one (de_chain c_le c_le de_int (de_var 4 rfl (.inl (by kernel_rfl))) de_int))) (by decide))) dl_nil))))))) (db_one (ds_ret de_bl)) db_nil)))
theorem d__law_is_table : DB (F__law_is_table B) (defBody s__law_is_table) g__law_is_table :=
  (db_cons (ds_if (dt_w (dw_or (dt_not (dt_val (de_isi (de_var 0 rfl (.inl (by kernel_rfl))) (by kernel_rfl) (fr_isinstance Y) (by kernel_rfl) (fr_list Y) (by kernel_rfl)))) (dw_or1 (dt_cmp c_ne (de_var 0 rfl (.inl (by kernel_rfl))) (de_call (k__law_rising Y) (show 1 ≤ 1 from by decide) (by kernel_rfl) (dl_cons (de_var 0 rfl (.inl (by kernel_rfl))) dl_nil)))))) (db_one (ds_ret de_bl)) db_nil) (db_cons (ds_for rfl (di_any (de_var 0 rfl (.inl (by kernel_rfl)))) (dg_name 2 (nd__law_is_table B) rfl (.inl (by kernel_rfl)) (.inl rfl)) (db__law_is_table_0 Y)) (db_one (ds_ret de_bl))))
theorem k__law_is_table : FkA B 2 "_law_is_table" 2 [] m__law_is_table := by
  obtain ⟨fd, Fu⟩ := Y.c.def_ 21 (d := dd__law_is_table) rfl
  exact fk_of (ps := ["_law_x", "_law_many"]) Fu (He.glo_ok Y.kin Y.ns (Y.c.fact 19 (f := .glo "_law_is_table") rfl)) (fn_den 1 none Fu sc__law_is_table (fun _ h => nomatch h) (d__law_is_table Y)) (Fu.bindsN fun _ _ _ _ _ _ us hl => by match us, hl with | [_, _], _ => rfl)
end
theorem sc__law_keeps_all : FnScope ["_law_heap", "_law_head_here", "_law_said_here", "_law_one"] ["_law_heap", "_law_head_here", "_law_said_here"] (defScope s__law_keeps_all) := ⟨rfl, rfl, rfl, by decide +kernel, rfl, by decide +kernel, by decide +kernel⟩
section
variable {B : Bs} (Y : Hy B)
include Y
theorem d__law_keeps_all : DB (F__law_keeps_all B) (defBody s__law_keeps_all) g__law_keeps_all :=
  (db_one (ds_ret (de_all rfl (by kernel_rfl) (fr_all Y) (dl_cons (de_frz (df_lc [("_law_one", 3)] rfl (nd__law_keeps_all B) (di_any (de_var 2 rfl (.inl (by kernel_rfl)))) (by kernel_rfl) (dg_name 3 (nd__law_keeps_all B) rfl (.inl (by kernel_rfl)) (.inr (by kernel_rfl))) dts_nil (de_cmp c_is (de_call (k__law_clash Y) (show 2 ≤ 2 from by decide) (by kernel_rfl) (dl_cons (de_var 0 rfl (.inr (.inl (by kernel_rfl)))) (dl_cons (de_var 1 rfl (.inr (.inl (by kernel_rfl)))) (dl_cons (de_var 3 rfl (.inl (by kernel_rfl))) dl_nil)))) de_non) (by decide))) dl_nil))))
theorem k__law_keeps_all : FkA B 3 "_law_keeps_all" 3 [] m__law_keeps_all := by
  obtain ⟨fd, Fu⟩ := Y.c.def_ 22 (d := dd__law_keeps_all) rfl
  exact fk_of (ps := ["_law_heap", "_law_head_here", "_law_said_here"]) Fu (He.glo_ok Y.kin Y.ns (Y.c.fact 20 (f := .glo "_law_keeps_all") rfl)) (fn_den 2 none Fu sc__law_keeps_all (fun _ h => nomatch h) (d__law_keeps_all Y)) (Fu.bindsN fun _ _ _ _ _ _ us hl => by match us, hl with | [_, _, _], _ => rfl)
end
theorem sc__law_side : FnScope ["_law_d", "_law_head_here", "_law_odds", "_law_sign"] ["_law_d", "_law_head_here"] (defScope s__law_side) := ⟨rfl, rfl, rfl, by decide +kernel, rfl, by decide +kernel, by decide +kernel⟩
section
variable {B : Bs} (Y : Hy B)
include Y
theorem d__law_side : DB (F__law_side B) (defBody s__law_side) g__law_side :=
  (db_cons (ds_set 2 (nd__law_side B) rfl (.inr (by kernel_rfl)) (.inl rfl) (de_ix (de_frz (df_lst (dl_cons de_int (dl_cons de_int (dl_cons de_int dl_nil))))) (de_call (k__law_draw Y) (show 1 ≤ 1 from by decide) (by kernel_rfl) (dl_cons (de_var 0 rfl (.inr (.inl (by kernel_rfl)))) (dl_cons de_int dl_nil))))) (db_one (ds_ret (de_join de_str (de_frz (df_lc [("_law_sign", 3)] rfl (nd__law_side B) (di_any (de_var 1 rfl (.inl (by kernel_rfl)))) (by kernel_rfl) (dg_name 3 (nd__law_side B) rfl (.inl (by kernel_rfl)) (.inr (by kernel_rfl))) (dts_one (dt_cmp c_eq (de_call (k__law_draw Y) (show 1 ≤ 1 from by decide) (by kernel_rfl) (dl_cons (de_var 0 rfl (.inr (.inl (by kernel_rfl)))) (dl_cons (de_var 2 rfl (.inr (.inl (by kernel_rfl)))) dl_nil))) de_int)) (de_var 3 rfl (.inl (by kernel_rfl))) (by decide)))))))
theorem k__law_side : FkA B 2 "_law_side" 2 [] m__law_side := by
  obtain ⟨fd, Fu⟩ := Y.c.def_ 23 (d := dd__law_side) rfl
  exact fk_of (ps := ["_law_d", "_law_head_here"]) Fu (He.glo_ok Y.kin Y.ns (Y.c.fact 21 (f := .glo "_law_side") rfl)) (fn_den 1 none Fu sc__law_side (fun _ h => nomatch h) (d__law_side Y)) (Fu.bindsN fun _ _ _ _ _ _ us hl => by match us, hl with | [_, _], _ => rfl)
end
theorem sc__law_saying : FnScope ["_law_d", "_law_head_here", "_law_word", "_law_low", "_law_high"] ["_law_d", "_law_head_here"] (defScope s__law_saying) := ⟨rfl, rfl, rfl, by decide +kernel, rfl, by decide +kernel, by decide +kernel⟩
section
variable {B : Bs} (Y : Hy B)
include Y
theorem d__law_saying : DB (F__law_saying B) (defBody s__law_saying) g__law_saying :=
  (db_cons (ds_set 2 (nd__law_saying B) rfl (.inl (by kernel_rfl)) (.inl rfl) (de_ix (de_frz (df_lst (dl_cons de_str (dl_cons de_str (dl_cons de_str dl_nil))))) (de_call (k__law_draw Y) (show 1 ≤ 2 from by decide) (by kernel_rfl) (dl_cons (de_var 0 rfl (.inl (by kernel_rfl))) (dl_cons de_int dl_nil))))) (db_cons (ds_set 3 (nd__law_saying B) rfl (.inl (by kernel_rfl)) (.inl rfl) (de_call (k__law_side Y) (show 2 ≤ 2 from by decide) (by kernel_rfl) (dl_cons (de_var 0 rfl (.inl (by kernel_rfl))) (dl_cons (de_var 1 rfl (.inl (by kernel_rfl))) dl_nil)))) (db_cons (ds_set 4 (nd__law_saying B) rfl (.inl (by kernel_rfl)) (.inl rfl) (de_call (k__law_side Y) (show 2 ≤ 2 from by decide) (by kernel_rfl) (dl_cons (de_var 0 rfl (.inl (by kernel_rfl))) (dl_cons (de_var 1 rfl (.inl (by kernel_rfl))) dl_nil)))) (db_cons (ds_if (dt_w (dw_and (dt_cmp c_eq (de_var 4 rfl (.inl (by kernel_rfl))) de_str) (dw_and1 (dt_cmp c_eq (de_call (k__law_draw Y) (show 1 ≤ 2 from by decide) (by kernel_rfl) (dl_cons (de_var 0 rfl (.inl (by kernel_rfl))) (dl_cons de_int dl_nil))) de_int)))) (db_one (ds_set 4 (nd__law_saying B) rfl (.inl (by kernel_rfl)) (.inl rfl) (de_ix (de_var 1 rfl (.inl (by kernel_rfl))) (de_call (k__law_draw Y) (show 1 ≤ 2 from by decide) (by kernel_rfl) (dl_cons (de_var 0 rfl (.inl (by kernel_rfl))) (dl_cons (de_len (by kernel_rfl) (fr_len Y) (dl_cons (de_var 1 rfl (.inl (by kernel_rfl))) dl_nil)) dl_nil)))))) db_nil) (db_one (ds_ret (de_tup (dl_cons (de_var 2 rfl (.inl (by kernel_rfl))) (dl_cons (de_var 3 rfl (.inl (by kernel_rfl))) (dl_cons (de_var 4 rfl (.inl (by kernel_rfl))) dl_nil))))))))))
theorem k__law_saying : FkA B 3 "_law_saying" 2 [] m__law_saying := by
  obtain ⟨fd, Fu⟩ := Y.c.def_ 24 (d := dd__law_saying) rfl
  exact fk_of (ps := ["_law_d", "_law_head_here"]) Fu (He.glo_ok Y.kin Y.ns (Y.c.fact 22 (f := .glo "_law_saying") rfl)) (fn_den 2 none Fu sc__law_saying (fun _ h => nomatch h) (d__law_saying Y)) (Fu.bindsN fun _ _ _ _ _ _ us hl => by match us, hl with | [_, _], _ => rfl)
end
theorem sc__law_unlike : FnScope ["_law_said_here", "_law_out", "_law_one"] ["_law_said_here"] (defScope s__law_unlike) := ⟨rfl, rfl, rfl, by decide +kernel, rfl, by decide +kernel, by decide +kernel⟩
section
variable {B : Bs} (Y : Hy B)
include Y
theorem db__law_unlike_0 : DB (F__law_unlike B) (bodyAt (defBody s__law_unlike) [(.inl 1)]) b__law_unlike_0 :=
  (db_one (ds_if (dt_lend (dt_cmp c_notIn (de_var 2 rfl (.inl (by kernel_rfl))) (de_var 1 rfl (.inl (by kernel_rfl))))) (db_one (ds_append 1 rfl (.inl (by kernel_rfl)) (dl_cons (de_var 2 rfl (.inl (by kernel_rfl))) dl_nil))) db_nil))
theorem d__law_unlike : DB (F__law_unlike B) (defBody s__law_unlike) g__law_unlike :=
  (db_cons (ds_setF 1 (nd__law_unlike B) rfl (.inl (by kernel_rfl)) (.inl rfl) (df_lst dl_nil)) (db_cons (ds_for rfl (di_any (de_var 0 rfl (.inl (by kernel_rfl)))) (dg_name 2 (nd__law_unlike B) rfl (.inl (by kernel_rfl)) (.inl rfl)) (db__law_unlike_0 Y)) (db_one (ds_retV 1 rfl (.inl (by kernel_rfl))))))
theorem k__law_unlike : FkA B 1 "_law_unlike" 1 [] m__law_unlike := by
  obtain ⟨fd, Fu⟩ := Y.c.def_ 25 (d := dd__law_unlike) rfl
  exact fk_of (ps := ["_law_said_here"]) Fu (He.glo_ok Y.kin Y.ns (Y.c.fact 23 (f := .glo "_law_unlike") rfl)) (fn_den 0 none Fu sc__law_unlike (fun _ h => nomatch h) (d__law_unlike Y)) (Fu.bindsN fun _ _ _ _ _ _ us hl => by match us, hl with | [_], _ => rfl)
end
theorem sc__law_said : FnScope ["_law_d", "_law_head_here", "_law_most", "_law_k"] ["_law_d", "_law_head_here", "_law_most"] (defScope s__law_said) := ⟨rfl, rfl, rfl, by decide +kernel, rfl, by decide +kernel, by decide +kernel⟩
section
variable {B : Bs} (Y : Hy B)
include Y
theorem d__law_said : DB (F__law_said B) (defBody s__law_said) g__law_said :=
  (db_one (ds_retC (k__law_unlike Y) (show 1 ≤ 3 from by decide) (by kernel_rfl) (dl_cons (de_frz (df_lc [("_law_k", 3)] rfl (nd__law_said B) (di_range1 (by kernel_rfl) (fr_range Y) (dl_cons (de_call (k__law_draw Y) (show 1 ≤ 3 from by decide) (by kernel_rfl) (dl_cons (de_var 0 rfl (.inr (.inl (by kernel_rfl)))) (dl_cons (de_op k_add (de_var 2 rfl (.inl (by kernel_rfl))) de_int) dl_nil))) dl_nil)) (by kernel_rfl) (dg_name 3 (nd__law_said B) rfl (.inl (by kernel_rfl)) (.inr (by kernel_rfl))) dts_nil (de_call (k__law_saying Y) (show 3 ≤ 3 from by decide) (by kernel_rfl) (dl_cons (de_var 0 rfl (.inr (.inl (by kernel_rfl)))) (dl_cons (de_var 1 rfl (.inr (.inl (by kernel_rfl)))) dl_nil))) (by decide))) dl_nil)))
theorem k__law_said : FkA B 4 "_law_said" 3 [] m__law_said := by
  obtain ⟨fd, Fu⟩ := Y.c.def_ 26 (d := dd__law_said) rfl
  exact fk_of (ps := ["_law_d", "_law_head_here", "_law_most"]) Fu (He.glo_ok Y.kin Y.ns (Y.c.fact 24 (f := .glo "_law_said") rfl)) (fn_den 3 none Fu sc__law_said (fun _ h => nomatch h) (d__law_said Y)) (Fu.bindsN fun _ _ _ _ _ _ us hl => by match us, hl with | [_, _, _], _ => rfl)
end
theorem sc__law_start : FnScope ["_law_script"] ["_law_script"] (defScope s__law_start) := ⟨rfl, rfl, rfl, by decide +kernel, rfl, by decide +kernel, by decide +kernel⟩
section
variable {B : Bs} (Y : Hy B)
include Y
theorem d__law_start : DB (F__law_start B) (defBody s__law_start) g__law_start :=
  (db_one (ds_retF (df_lst (dl_cons (de_var 0 rfl (.inl (by kernel_rfl))) (dl_cons de_int (dl_cons de_int (dl_cons de_int dl_nil)))))))
theorem k__law_start : FkA B 1 "_law_start" 1 [] m__law_start := by
  obtain ⟨fd, Fu⟩ := Y.c.def_ 27 (d := dd__law_start) rfl
  exact fk_of (ps := ["_law_script"]) Fu (He.glo_ok Y.kin Y.ns (Y.c.fact 25 (f := .glo "_law_start") rfl)) (fn_den 0 none Fu sc__law_start (fun _ h => nomatch h) (d__law_start Y)) (Fu.bindsN fun _ _ _ _ _ _ us hl => by match us, hl with | [_], _ => rfl)
end
theorem sc_common : FnScope ["one", "other", "sign"] ["one", "other"] (defScope s_common) := ⟨rfl, rfl, rfl, by decide +kernel, rfl, by decide +kernel, by decide +kernel⟩
section
variable {B : Bs} (Y : Hy B)
include Y
theorem d_common : DB (F_common B) (defBody s_common) g_common :=
  (db_one (ds_ret (de_join de_str (de_frz (df_lc [("sign", 2)] rfl (nd_common B) (di_any (de_var 0 rfl (.inl (by kernel_rfl)))) (by kernel_rfl) (dg_name 2 (nd_common B) rfl (.inl (by kernel_rfl)) (.inr (by kernel_rfl))) (dts_one (dt_cmp c_in (de_var 2 rfl (.inl (by kernel_rfl))) (de_var 1 rfl (.inr (.inl (by kernel_rfl)))))) (de_var 2 rfl (.inl (by kernel_rfl))) (by decide))))))
theorem k_common : FkA B 1 "common" 2 [] m_common := by
  obtain ⟨fd, Fu⟩ := Y.c.def_ 28 (d := dd_common) rfl
  exact fk_of (ps := ["one", "other"]) Fu (He.glo_ok Y.kin Y.ns (Y.c.fact 26 (f := .glo "common") rfl)) (fn_den 0 none Fu sc_common (fun _ h => nomatch h) (d_common Y)) (Fu.bindsN fun _ _ _ _ _ _ us hl => by match us, hl with | [_, _], _ => rfl)
end
theorem sc_cut_once : FnScope ["blocks", "ways", "left", "right", "at", "block", "inner"] ["blocks", "ways"] (defScope s_cut_once) := ⟨rfl, rfl, rfl, by decide +kernel, rfl, by decide +kernel, by decide +kernel⟩
section
variable {B : Bs} (Y : Hy B)
include Y
theorem db_cut_once_0 : DB (F_cut_once B) (bodyAt (defBody s_cut_once) [(.inl 0), (.inl 0)]) b_cut_once_0 :=
  (db_cons (ds_set 6 (nd_cut_once B) rfl (.inl (by kernel_rfl)) (.inl rfl) (de_call (k_common Y) (show 1 ≤ 1 from by decide) (by kernel_rfl) (dl_cons (de_var 5 rfl (.inl (by kernel_rfl))) (dl_cons (de_var 3 rfl (.inl (by kernel_rfl))) dl_nil)))) (db_one (ds_if (dt_w (dw_and (dt_cmp c_eq (de_call (k_common Y) (show 1 ≤ 1 from by decide) (by kernel_rfl) (dl_cons (de_var 5 rfl (.inl (by kernel_rfl))) (dl_cons (de_var 2 rfl (.inl (by kernel_rfl))) dl_nil))) de_str) (dw_and1 (dt_cmp c_notInT (de_var 6 rfl (.inl (by kernel_rfl))) (de_tup (dl_cons de_str (dl_cons (de_var 5 rfl (.inl (by kernel_rfl))) dl_nil))))))) (db_one (ds_ret (de_tup (dl_cons (de_var 4 rfl (.inl (by kernel_rfl))) (dl_cons (de_var 2 rfl (.inl (by kernel_rfl))) (dl_cons (de_var 3 rfl (.inl (by kernel_rfl))) dl_nil)))))) db_nil)))
theorem db_cut_once_1 : DB (F_cut_once B) (bodyAt (defBody s_cut_once) [(.inl 0)]) b_cut_once_1 :=
  (db_one (ds_for rfl (di_enum (by kernel_rfl) (fr_enumerate Y) (dl_cons (de_var 0 rfl (.inl (by kernel_rfl))) dl_nil)) (dg_tup rfl (dgs_cons (dg_name 4 (nd_cut_once B) rfl (.inl (by kernel_rfl)) (.inl rfl)) (dgs_cons (dg_name 5 (nd_cut_once B) rfl (.inl (by kernel_rfl)) (.inl rfl)) dgs_nil))) (db_cut_once_0 Y)))
theorem d_cut_once : DB (F_cut_once B) (defBody s_cut_once) g_cut_once :=
  (db_cons (ds_for rfl (di_any (de_var 1 rfl (.inl (by kernel_rfl)))) (dg_tup rfl (dgs_cons (dg_name 2 (nd_cut_once B) rfl (.inl (by kernel_rfl)) (.inl rfl)) (dgs_cons (dg_name 3 (nd_cut_once B) rfl (.inl (by kernel_rfl)) (.inl rfl)) dgs_nil))) (db_cut_once_1 Y)) (db_one (ds_ret de_non)))
theorem k_cut_once : FkA B 2 "cut_once" 2 [] m_cut_once := by
  obtain ⟨fd, Fu⟩ := Y.c.def_ 29 (d := dd_cut_once) rfl
  exact fk_of (ps := ["blocks", "ways"]) Fu (He.glo_ok Y.kin Y.ns (Y.c.fact 27 (f := .glo "cut_once") rfl)) (fn_den 1 none Fu sc_cut_once (fun _ h => nomatch h) (d_cut_once Y)) (Fu.bindsN fun _ _ _ _ _ _ us hl => by match us, hl with | [_, _], _ => rfl)
end
theorem sc_cutters : FnScope ["book", "found", "word", "left", "right", "sign"] ["book"] (defScope s_cutters) := ⟨rfl, rfl, rfl, by decide +kernel, rfl, by decide +kernel, by decide +kernel⟩
section
variable {B : Bs} (Y : Hy B)
include Y
theorem db_cutters_0 : DB (F_cutters B) (bodyAt (defBody s_cutters) [(.inl 1)]) b_cutters_0 :=
  (db_one (ds_if (dt_cmp c_eq (de_var 2 rfl (.inl (by kernel_rfl))) (con_TELLS Y rfl (by kernel_rfl))) (db_one (ds_extend 1 rfl (.inl (by kernel_rfl)) (dl_cons (de_frz (df_lc [("sign", 5)] rfl (nd_cutters B) (di_any (de_var 4 rfl (.inl (by kernel_rfl)))) (by kernel_rfl) (dg_name 5 (nd_cutters B) rfl (.inl (by kernel_rfl)) (.inr (by kernel_rfl))) dts_nil (de_tup (dl_cons (de_var 3 rfl (.inr (.inl (by kernel_rfl)))) (dl_cons (de_var 5 rfl (.inl (by kernel_rfl))) dl_nil))) (by decide))) dl_nil))) (db_one (ds_append 1 rfl (.inl (by kernel_rfl)) (dl_cons (de_tup (dl_cons (de_var 3 rfl (.inr (.inl (by kernel_rfl)))) (dl_cons (de_var 4 rfl (.inl (by kernel_rfl))) dl_nil))) dl_nil)))))
theorem d_cutters : DB (F_cutters B) (defBody s_cutters) g_cutters :=
  (db_cons (ds_setF 1 (nd_cutters B) rfl (.inl (by kernel_rfl)) (.inl rfl) (df_lst dl_nil)) (db_cons (ds_for rfl (di_any (de_fld (ff_Book_said Y) (de_var 0 rfl (.inl (by kernel_rfl))))) (dg_tup rfl (dgs_cons (dg_name 2 (nd_cutters B) rfl (.inl (by kernel_rfl)) (.inl rfl)) (dgs_cons (dg_name 3 (nd_cutters B) rfl (.inr (by kernel_rfl)) (.inl rfl)) (dgs_cons (dg_name 4 (nd_cutters B) rfl (.inl (by kernel_rfl)) (.inl rfl)) dgs_nil)))) (db_cutters_0 Y)) (db_one (ds_retV 1 rfl (.inl (by kernel_rfl))))))
theorem k_cutters : FkA B 1 "cutters" 1 [] m_cutters := by
  obtain ⟨fd, Fu⟩ := Y.c.def_ 30 (d := dd_cutters) rfl
  exact fk_of (ps := ["book"]) Fu (He.glo_ok Y.kin Y.ns (Y.c.fact 28 (f := .glo "cutters") rfl)) (fn_den 0 none Fu sc_cutters (fun _ h => nomatch h) (d_cutters Y)) (Fu.bindsN fun _ _ _ _ _ _ us hl => by match us, hl with | [_], _ => rfl)
end
theorem sc_without : FnScope ["one", "other", "sign"] ["one", "other"] (defScope s_without) := ⟨rfl, rfl, rfl, by decide +kernel, rfl, by decide +kernel, by decide +kernel⟩
section
variable {B : Bs} (Y : Hy B)
include Y
theorem d_without : DB (F_without B) (defBody s_without) g_without :=
  (db_one (ds_ret (de_join de_str (de_frz (df_lc [("sign", 2)] rfl (nd_without B) (di_any (de_var 0 rfl (.inl (by kernel_rfl)))) (by kernel_rfl) (dg_name 2 (nd_without B) rfl (.inl (by kernel_rfl)) (.inr (by kernel_rfl))) (dts_one (dt_cmp c_notIn (de_var 2 rfl (.inl (by kernel_rfl))) (de_var 1 rfl (.inr (.inl (by kernel_rfl)))))) (de_var 2 rfl (.inl (by kernel_rfl))) (by decide))))))
theorem k_without : FkA B 1 "without" 2 [] m_without := by
  obtain ⟨fd, Fu⟩ := Y.c.def_ 31 (d := dd_without) rfl
  exact fk_of (ps := ["one", "other"]) Fu (He.glo_ok Y.kin Y.ns (Y.c.fact 29 (f := .glo "without") rfl)) (fn_den 0 none Fu sc_without (fun _ h => nomatch h) (d_without Y)) (Fu.bindsN fun _ _ _ _ _ _ us hl => by match us, hl with | [_, _], _ => rfl)
end
theorem sc_blocks_of : FnScope ["book", "left", "rest", "blocks", "ways", "found", "at", "low", "high", "block"] ["book", "left"] (defScope s_blocks_of) := ⟨rfl, rfl, rfl, by decide +kernel, rfl, by decide +kernel, by decide +kernel⟩
section
variable {B : Bs} (Y : Hy B)
include Y
theorem db_blocks_of_0 : DB (F_blocks_of B) (bodyAt (defBody s_blocks_of) [(.inl 4)]) b_blocks_of_0 :=
  (db_cons (ds_asg (de_var 5 rfl (.inl (by kernel_rfl))) (dg_tup rfl (dgs_cons (dg_name 6 (nd_blocks_of B) rfl (.inl (by kernel_rfl)) (.inl rfl)) (dgs_cons (dg_name 7 (nd_blocks_of B) rfl (.inl (by kernel_rfl)) (.inl rfl)) (dgs_cons (dg_name 8 (nd_blocks_of B) rfl (.inl (by kernel_rfl)) (.inl rfl)) dgs_nil))))) (db_cons (ds_set 9 (nd_blocks_of B) rfl (.inl (by kernel_rfl)) (.inl rfl) (de_lend (de_ix (de_var 3 rfl (.inl (by kernel_rfl))) (de_var 6 rfl (.inl (by kernel_rfl)))))) (db_cons (ds_slc 3 rfl (.inl (by kernel_rfl)) (de_frz (df_lst (dl_cons (de_call (k_common Y) (show 1 ≤ 2 from by decide) (by kernel_rfl) (dl_cons (de_var 9 rfl (.inl (by kernel_rfl))) (dl_cons (de_var 8 rfl (.inl (by kernel_rfl))) dl_nil))) (dl_cons (de_call (k_without Y) (show 1 ≤ 2 from by decide) (by kernel_rfl) (dl_cons (de_var 9 rfl (.inl (by kernel_rfl))) (dl_cons (de_var 8 rfl (.inl (by kernel_rfl))) dl_nil))) dl_nil)))) (do_some (de_var 6 rfl (.inl (by kernel_rfl)))) (do_some (de_op k_add (de_var 6 rfl (.inl (by kernel_rfl))) de_int))) (db_one (ds_set 5 (nd_blocks_of B) rfl (.inl (by kernel_rfl)) (.inl rfl) (de_lend (de_call (k_cut_once Y) (show 2 ≤ 2 from by decide) (by kernel_rfl) (dl_cons (de_var 3 rfl (.inl (by kernel_rfl))) (dl_cons (de_var 4 rfl (.inl (by kernel_rfl))) dl_nil)))))))))
theorem d_blocks_of : DB (F_blocks_of B) (defBody s_blocks_of) g_blocks_of :=
  (db_cons (ds_set 2 (nd_blocks_of B) rfl (.inl (by kernel_rfl)) (.inl rfl) (de_call (k_without Y) (show 1 ≤ 2 from by decide) (by kernel_rfl) (dl_cons (de_fld (ff_Book_letters Y) (de_var 0 rfl (.inl (by kernel_rfl)))) (dl_cons (de_var 1 rfl (.inl (by kernel_rfl))) dl_nil)))) (db_cons (ds_setF 3 (nd_blocks_of B) rfl (.inl (by kernel_rfl)) (.inl rfl) (df_if (dt_cmp c_ne (de_var 2 rfl (.inl (by kernel_rfl))) de_str) (df_lst (dl_cons (de_var 2 rfl (.inl (by kernel_rfl))) dl_nil)) (df_lst dl_nil))) (db_cons (ds_set 4 (nd_blocks_of B) rfl (.inl (by kernel_rfl)) (.inl rfl) (de_call (k_cutters Y) (show 1 ≤ 2 from by decide) (by kernel_rfl) (dl_cons (de_var 0 rfl (.inl (by kernel_rfl))) dl_nil))) (db_cons (ds_set 5 (nd_blocks_of B) rfl (.inl (by kernel_rfl)) (.inl rfl) (de_lend (de_call (k_cut_once Y) (show 2 ≤ 2 from by decide) (by kernel_rfl) (dl_cons (de_var 3 rfl (.inl (by kernel_rfl))) (dl_cons (de_var 4 rfl (.inl (by kernel_rfl))) dl_nil))))) (db_cons (ds_while (dt_cmp c_isNot (de_var 5 rfl (.inl (by kernel_rfl))) de_non) (db_blocks_of_0 Y)) (db_one (ds_retV 3 rfl (.inl (by kernel_rfl)))))))))
theorem k_blocks_of : FkA B 3 "blocks_of" 2 [] m_blocks_of := by
  obtain ⟨fd, Fu⟩ := Y.c.def_ 32 (d := dd_blocks_of) rfl
  exact fk_of (ps := ["book", "left"]) Fu (He.glo_ok Y.kin Y.ns (Y.c.fact 30 (f := .glo "blocks_of") rfl)) (fn_den 2 none Fu sc_blocks_of (fun _ h => nomatch h) (d_blocks_of Y)) (Fu.bindsN fun _ _ _ _ _ _ us hl => by match us, hl with | [_, _], _ => rfl)
end
theorem sc_looked : FnScope ["saying", "columns", "at"] ["saying", "columns", "at"] (defScope s_looked) := ⟨rfl, rfl, rfl, by decide +kernel, rfl, by decide +kernel, by decide +kernel⟩
section
variable {B : Bs} (Y : Hy B)
include Y
theorem d_looked : DB (F_looked B) (defBody s_looked) g_looked :=
  (db_one (ds_if (dt_not (dt_val (de_call (k_is_saying Y) (show 2 ≤ 4 from by decide) (by kernel_rfl) (dl_cons (de_var 0 rfl (.inl (by kernel_rfl))) (dl_cons (de_var 1 rfl (.inl (by kernel_rfl))) dl_nil))))) (db_one (ds_raise (xk_BadSaying Y) (show 3 + 1 ≤ 4 from by decide) rfl (by decide) (by kernel_rfl) (dl_cons (de_var 2 rfl (.inl (by kernel_rfl))) dl_nil))) db_nil))
theorem k_looked_2 : FkA B 5 "looked" 2 [(.int 0)] m_looked := by
  obtain ⟨fd, Fu⟩ := Y.c.def_ 33 (d := dd_looked) rfl
  exact fkD_of (ps := ["saying", "columns", "at"]) (dvs := [.int 0]) 2 0 [(.int 0)] Fu (He.glo_ok Y.kin Y.ns (Y.c.fact 31 (f := .glo "looked") rfl)) (fn_den 4 none Fu sc_looked (fun _ h => nomatch h) (d_looked Y)) (List.cons_ne_nil _ _) rfl rfl (fun k D _ _ => (.cons (.int _) .nil)) fun _ _ _ _ _ _ _ us its hl hi => by match us, its, hl, hi with | [_, _], [_], _, _ => exact ⟨_, rfl, rfl⟩
end
theorem sc_made_of : FnScope ["blocks", "right", "block"] ["blocks", "right"] (defScope s_made_of) := ⟨rfl, rfl, rfl, by decide +kernel, rfl, by decide +kernel, by decide +kernel⟩
section
variable {B : Bs} (Y : Hy B)
include Y
theorem d_made_of : DB (F_made_of B) (defBody s_made_of) g_made_of :=
  (db_one (ds_ret (de_all rfl (by kernel_rfl) (fr_all Y) (dl_cons (de_frz (df_lc [("block", 2)] rfl (nd_made_of B) (di_any (de_var 0 rfl (.inl (by kernel_rfl)))) (by kernel_rfl) (dg_name 2 (nd_made_of B) rfl (.inl (by kernel_rfl)) (.inr (by kernel_rfl))) dts_nil (de_cmp c_inT (de_call (k_common Y) (show 1 ≤ 1 from by decide) (by kernel_rfl) (dl_cons (de_var 2 rfl (.inl (by kernel_rfl))) (dl_cons (de_var 1 rfl (.inr (.inl (by kernel_rfl)))) dl_nil))) (de_tup (dl_cons de_str (dl_cons (de_var 2 rfl (.inl (by kernel_rfl))) dl_nil)))) (by decide))) dl_nil))))
theorem k_made_of : FkA B 2 "made_of" 2 [] m_made_of := by
  obtain ⟨fd, Fu⟩ := Y.c.def_ 34 (d := dd_made_of) rfl
  exact fk_of (ps := ["blocks", "right"]) Fu (He.glo_ok Y.kin Y.ns (Y.c.fact 32 (f := .glo "made_of") rfl)) (fn_den 1 none Fu sc_made_of (fun _ h => nomatch h) (d_made_of Y)) (Fu.bindsN fun _ _ _ _ _ _ us hl => by match us, hl with | [_, _], _ => rfl)
end
theorem sc_need_columns : FnScope ["book", "left", "sign"] ["book", "left"] (defScope s_need_columns) := ⟨rfl, rfl, rfl, by decide +kernel, rfl, by decide +kernel, by decide +kernel⟩
section
variable {B : Bs} (Y : Hy B)
include Y
theorem db_need_columns_0 : DB (F_need_columns B) (bodyAt (defBody s_need_columns) [(.inl 0)]) b_need_columns_0 :=
  (db_one (ds_if (dt_cmp c_notIn (de_var 2 rfl (.inl (by kernel_rfl))) (de_fld (ff_Book_letters Y) (de_var 0 rfl (.inl (by kernel_rfl))))) (db_one (ds_raise (xk_NoColumn Y) (show 3 + 1 ≤ 4 from by decide) rfl (by decide) (by kernel_rfl) (dl_cons (de_var 2 rfl (.inl (by kernel_rfl))) dl_nil))) db_nil))
theorem d_need_columns : DB (F_need_columns B) (defBody s_need_columns) g_need_columns :=
  (db_one (ds_for rfl (di_any (de_var 1 rfl (.inl (by kernel_rfl)))) (dg_name 2 (nd_need_columns B) rfl (.inl (by kernel_rfl)) (.inl rfl)) (db_need_columns_0 Y)))
theorem k_need_columns : FkA B 5 "need_columns" 2 [] m_need_columns := by
  obtain ⟨fd, Fu⟩ := Y.c.def_ 35 (d := dd_need_columns) rfl
  exact fk_of (ps := ["book", "left"]) Fu (He.glo_ok Y.kin Y.ns (Y.c.fact 33 (f := .glo "need_columns") rfl)) (fn_den 4 none Fu sc_need_columns (fun _ h => nomatch h) (d_need_columns Y)) (Fu.bindsN fun _ _ _ _ _ _ us hl => by match us, hl with | [_, _], _ => rfl)
end
theorem sc_teller_of : FnScope ["book", "sign", "word", "left", "right"] ["book", "sign"] (defScope s_teller_of) := ⟨rfl, rfl, rfl, by decide +kernel, rfl, by decide +kernel, by decide +kernel⟩
section
variable {B : Bs} (Y : Hy B)
include Y
theorem db_teller_of_0 : DB (F_teller_of B) (bodyAt (defBody s_teller_of) [(.inl 0)]) b_teller_of_0 :=
  (db_one (ds_if (dt_w (dw_and (dt_cmp c_eq (de_var 2 rfl (.inl (by kernel_rfl))) (con_TELLS Y rfl (by kernel_rfl))) (dw_and (dt_cmp c_in (de_var 1 rfl (.inl (by kernel_rfl))) (de_var 4 rfl (.inl (by kernel_rfl)))) (dw_and1 (dt_cmp c_notIn (de_var 1 rfl (.inl (by kernel_rfl))) (de_var 3 rfl (.inl (by kernel_rfl)))))))) (db_one (ds_ret (de_tup (dl_cons (de_var 2 rfl (.inl (by kernel_rfl))) (dl_cons (de_var 3 rfl (.inl (by kernel_rfl))) (dl_cons (de_var 4 rfl (.inl (by kernel_rfl))) dl_nil)))))) db_nil))
theorem d_teller_of : DB (F_teller_of B) (defBody s_teller_of) g_teller_of :=
  (db_cons (ds_for rfl (di_any (de_fld (ff_Book_said Y) (de_var 0 rfl (.inl (by kernel_rfl))))) (dg_tup rfl (dgs_cons (dg_name 2 (nd_teller_of B) rfl (.inl (by kernel_rfl)) (.inl rfl)) (dgs_cons (dg_name 3 (nd_teller_of B) rfl (.inl (by kernel_rfl)) (.inl rfl)) (dgs_cons (dg_name 4 (nd_teller_of B) rfl (.inl (by kernel_rfl)) (.inl rfl)) dgs_nil)))) (db_teller_of_0 Y)) (db_one (ds_ret de_non)))
theorem k_teller_of : FkA B 1 "teller_of" 2 [] m_teller_of := by
  obtain ⟨fd, Fu⟩ := Y.c.def_ 36 (d := dd_teller_of) rfl
  exact fk_of (ps := ["book", "sign"]) Fu (He.glo_ok Y.kin Y.ns (Y.c.fact 34 (f := .glo "teller_of") rfl)) (fn_den 0 none Fu sc_teller_of (fun _ h => nomatch h) (d_teller_of Y)) (Fu.bindsN fun _ _ _ _ _ _ us hl => by match us, hl with | [_, _], _ => rfl)
end
theorem sc_ordered : FnScope ["signs"] ["signs"] (defScope s_ordered) := ⟨rfl, rfl, rfl, by decide +kernel, rfl, by decide +kernel, by decide +kernel⟩
section
variable {B : Bs} (Y : Hy B)
include Y
theorem d_ordered : DB (F_ordered B) (defBody s_ordered) g_ordered :=
  (db_one (ds_ret (de_join de_str (de_frz (df_srtX rfl (by kernel_rfl) (fr_sorted Y) (by kernel_rfl) (fr_set Y) (dl_cons (de_var 0 rfl (.inl (by kernel_rfl))) dl_nil))))))
theorem k_ordered : FkA B 1 "ordered" 1 [] m_ordered := by
  obtain ⟨fd, Fu⟩ := Y.c.def_ 37 (d := dd_ordered) rfl
  exact fk_of (ps := ["signs"]) Fu (He.glo_ok Y.kin Y.ns (Y.c.fact 35 (f := .glo "ordered") rfl)) (fn_den 0 none Fu sc_ordered (fun _ h => nomatch h) (d_ordered Y)) (Fu.bindsN fun _ _ _ _ _ _ us hl => by match us, hl with | [_], _ => rfl)
end
theorem sc_union : FnScope ["one", "other"] ["one", "other"] (defScope s_union) := ⟨rfl, rfl, rfl, by decide +kernel, rfl, by decide +kernel, by decide +kernel⟩
section
variable {B : Bs} (Y : Hy B)
include Y
theorem d_union : DB (F_union B) (defBody s_union) g_union :=
  (db_one (ds_retC (k_ordered Y) (show 1 ≤ 1 from by decide) (by kernel_rfl) (dl_cons (de_op k_add (de_var 0 rfl (.inl (by kernel_rfl))) (de_var 1 rfl (.inl (by kernel_rfl)))) dl_nil)))
theorem k_union : FkA B 2 "union" 2 [] m_union := by
  obtain ⟨fd, Fu⟩ := Y.c.def_ 38 (d := dd_union) rfl
  exact fk_of (ps := ["one", "other"]) Fu (He.glo_ok Y.kin Y.ns (Y.c.fact 36 (f := .glo "union") rfl)) (fn_den 1 none Fu sc_union (fun _ h => nomatch h) (d_union Y)) (Fu.bindsN fun _ _ _ _ _ _ us hl => by match us, hl with | [_, _], _ => rfl)
end
theorem sc_told : FnScope ["book", "left", "single", "block", "sign"] ["book", "left"] (defScope s_told) := ⟨rfl, rfl, rfl, by decide +kernel, rfl, by decide +kernel, by decide +kernel⟩
section
variable {B : Bs} (Y : Hy B)
include Y
theorem d_told : DB (F_told B) (defBody s_told) g_told :=
  (db_cons (ds_drop (de_call (k_need_columns Y) (show 5 ≤ 5 from by decide) (by kernel_rfl) (dl_cons (de_var 0 rfl (.inr (.inl (by kernel_rfl)))) (dl_cons (de_var 1 rfl (.inl (by kernel_rfl))) dl_nil)))) (db_cons (ds_thaw 2 (ds_setLc 2 [("block", 3)] rfl (nd_told B) rfl (by kernel_rfl) (by kernel_rfl) (by kernel_rfl) rfl (by kernel_rfl) (di_any (de_call (k_blocks_of Y) (show 3 ≤ 5 from by decide) (by kernel_rfl) (dl_cons (de_var 0 rfl (.inr (.inl (by kernel_rfl)))) (dl_cons (de_var 1 rfl (.inl (by kernel_rfl))) dl_nil)))) (by kernel_rfl) (dg_name 3 (nd_told B) rfl (.inl (by kernel_rfl)) (.inr (by kernel_rfl))) (dts_one (dt_cmp c_eq (de_len (by kernel_rfl) (fr_len Y) (dl_cons (de_var 3 rfl (.inl (by kernel_rfl))) dl_nil)) de_int)) (de_var 3 rfl (.inl (by kernel_rfl))) (by decide))) (db_one (ds_retC (k_union Y) (show 2 ≤ 5 from by decide) (by kernel_rfl) (dl_cons (de_var 1 rfl (.inl (by kernel_rfl))) (dl_cons (de_join de_str (de_frz (df_lc [("sign", 4)] rfl (nd_told B) (di_any (de_var 2 rfl (.inl (by kernel_rfl)))) (by kernel_rfl) (dg_name 4 (nd_told B) rfl (.inl (by kernel_rfl)) (.inr (by kernel_rfl))) (dts_one (dt_cmp c_isNot (de_call (k_teller_of Y) (show 1 ≤ 5 from by decide) (by kernel_rfl) (dl_cons (de_var 0 rfl (.inr (.inl (by kernel_rfl)))) (dl_cons (de_var 4 rfl (.inl (by kernel_rfl))) dl_nil))) de_non)) (de_var 4 rfl (.inl (by kernel_rfl))) (by decide)))) dl_nil))))))
theorem k_told : FkA B 6 "told" 2 [] m_told := by
  obtain ⟨fd, Fu⟩ := Y.c.def_ 39 (d := dd_told) rfl
  exact fk_of (ps := ["book", "left"]) Fu (He.glo_ok Y.kin Y.ns (Y.c.fact 37 (f := .glo "told") rfl)) (fn_den 5 none Fu sc_told (fun _ h => nomatch h) (d_told Y)) (Fu.bindsN fun _ _ _ _ _ _ us hl => by match us, hl with | [_, _], _ => rfl)
end
theorem sc_follows : FnScope ["book", "saying", "word", "left", "right"] ["book", "saying"] (defScope s_follows) := ⟨rfl, rfl, rfl, by decide +kernel, rfl, by decide +kernel, by decide +kernel⟩
section
variable {B : Bs} (Y : Hy B)
include Y
theorem d_follows : DB (F_follows B) (defBody s_follows) g_follows :=
  (db_cons (ds_drop (de_call (k_looked_2 Y) (show 5 ≤ 6 from by decide) (by kernel_rfl) (dl_cons (de_var 1 rfl (.inl (by kernel_rfl))) (dl_cons (de_fld (ff_Book_letters Y) (de_var 0 rfl (.inl (by kernel_rfl)))) dl_nil)))) (db_cons (ds_asg (de_var 1 rfl (.inl (by kernel_rfl))) (dg_tup rfl (dgs_cons (dg_name 2 (nd_follows B) rfl (.inl (by kernel_rfl)) (.inl rfl)) (dgs_cons (dg_name 3 (nd_follows B) rfl (.inl (by kernel_rfl)) (.inl rfl)) (dgs_cons (dg_name 4 (nd_follows B) rfl (.inl (by kernel_rfl)) (.inl rfl)) dgs_nil))))) (db_cons (ds_if (dt_cmp c_eq (de_var 2 rfl (.inl (by kernel_rfl))) (con_TELLS Y rfl (by kernel_rfl))) (db_one (ds_retC (k_within Y) (show 1 ≤ 6 from by decide) (by kernel_rfl) (dl_cons (de_var 4 rfl (.inl (by kernel_rfl))) (dl_cons (de_call (k_told Y) (show 6 ≤ 6 from by decide) (by kernel_rfl) (dl_cons (de_var 0 rfl (.inl (by kernel_rfl))) (dl_cons (de_var 3 rfl (.inl (by kernel_rfl))) dl_nil))) dl_nil)))) db_nil) (db_one (ds_retC (k_made_of Y) (show 2 ≤ 6 from by decide) (by kernel_rfl) (dl_cons (de_call (k_blocks_of Y) (show 3 ≤ 6 from by decide) (by kernel_rfl) (dl_cons (de_var 0 rfl (.inl (by kernel_rfl))) (dl_cons (de_var 3 rfl (.inl (by kernel_rfl))) dl_nil))) (dl_cons (de_var 4 rfl (.inl (by kernel_rfl))) dl_nil)))))))
theorem k_follows : FkA B 7 "follows" 2 [] m_follows := by
  obtain ⟨fd, Fu⟩ := Y.c.def_ 40 (d := dd_follows) rfl
  exact fk_of (ps := ["book", "saying"]) Fu (He.glo_ok Y.kin Y.ns (Y.c.fact 38 (f := .glo "follows") rfl)) (fn_den 6 none Fu sc_follows (fun _ h => nomatch h) (d_follows Y)) (Fu.bindsN fun _ _ _ _ _ _ us hl => by match us, hl with | [_, _], _ => rfl)
end
theorem sc_against : FnScope ["book", "saying", "word", "left", "right", "sure", "blocks", "chosen", "block", "one", "sign"] ["book", "saying"] (defScope s_against) := ⟨rfl, rfl, rfl, by decide +kernel, rfl, by decide +kernel, by decide +kernel⟩
section
variable {B : Bs} (Y : Hy B)
include Y
theorem db_against_0 : DB (F_against B) (bodyAt (defBody s_against) [(.inl 5)]) b_against_k17_0 :=
  (db_one (ds_augL 7 (nd_against B) rfl (.inl (by kernel_rfl)) (.inl rfl) (de_frz (df_lend (df_lc [("one", 9)] rfl (nd_against B) (di_any (de_var 7 rfl (.inl (by kernel_rfl)))) (by kernel_rfl) (dg_name 9 (nd_against B) rfl (.inl (by kernel_rfl)) (.inr (by kernel_rfl))) dts_nil (de_call (k_union Y) (show 2 ≤ 7 from by decide) (by kernel_rfl) (dl_cons (de_var 9 rfl (.inl (by kernel_rfl))) (dl_cons (de_var 8 rfl (.inr (.inl (by kernel_rfl)))) dl_nil))) (by decide))))))
theorem d_against : DB (F_against B) (defBody s_against) g_against_k17 :=
  (db_cons (ds_if (dt_val (de_call (k_follows Y) (show 7 ≤ 7 from by decide) (by kernel_rfl) (dl_cons (de_var 0 rfl (.inr (.inl (by kernel_rfl)))) (dl_cons (de_var 1 rfl (.inl (by kernel_rfl))) dl_nil)))) (db_one (ds_ret de_non)) db_nil) (db_cons (ds_asg (de_var 1 rfl (.inl (by kernel_rfl))) (dg_tup rfl (dgs_cons (dg_name 2 (nd_against B) rfl (.inl (by kernel_rfl)) (.inl rfl)) (dgs_cons (dg_name 3 (nd_against B) rfl (.inl (by kernel_rfl)) (.inl rfl)) (dgs_cons (dg_name 4 (nd_against B) rfl (.inl (by kernel_rfl)) (.inl rfl)) dgs_nil))))) (db_cons (ds_set 5 (nd_against B) rfl (.inr (by kernel_rfl)) (.inl rfl) (de_call (k_told Y) (show 6 ≤ 7 from by decide) (by kernel_rfl) (dl_cons (de_var 0 rfl (.inr (.inl (by kernel_rfl)))) (dl_cons (de_var 3 rfl (.inl (by kernel_rfl))) dl_nil)))) (db_cons (ds_thaw 6 (ds_setLc 6 [("block", 8)] rfl (nd_against B) rfl (by kernel_rfl) (by kernel_rfl) (by kernel_rfl) rfl (by kernel_rfl) (di_any (de_call (k_blocks_of Y) (show 3 ≤ 7 from by decide) (by kernel_rfl) (dl_cons (de_var 0 rfl (.inr (.inl (by kernel_rfl)))) (dl_cons (de_var 3 rfl (.inl (by kernel_rfl))) dl_nil)))) (by kernel_rfl) (dg_name 8 (nd_against B) rfl (.inl (by kernel_rfl)) (.inr (by kernel_rfl))) (dts_one (dt_not (dt_val (de_call (k_within Y) (show 1 ≤ 7 from by decide) (by kernel_rfl) (dl_cons (de_var 8 rfl (.inl (by kernel_rfl))) (dl_cons (de_var 5 rfl (.inr (.inl (by kernel_rfl)))) dl_nil)))))) (de_var 8 rfl (.inl (by kernel_rfl))) (by decide))) (db_cons (ds_setF 7 (nd_against B) rfl (.inl (by kernel_rfl)) (.inl rfl) (df_lst (dl_cons de_str dl_nil))) (db_cons (ds_for rfl (di_any (de_var 6 rfl (.inl (by kernel_rfl)))) (dg_name 8 (nd_against B) rfl (.inr (by kernel_rfl)) (.inl rfl)) (db_against_0 Y)) (db_one (ds_retF (df_lend (df_sorted (by kernel_rfl) (fr_sorted Y) (dl_cons (de_frz (df_lc [("one", 9)] rfl (nd_against B) (di_any (de_var 7 rfl (.inl (by kernel_rfl)))) (by kernel_rfl) (dg_nameC 9 (nd_against B) rfl (.inr (by kernel_rfl)) (by kernel_rfl)) dts_nil (de_tuple (by kernel_rfl) (fr_tuple Y) (dl_cons (de_frz (df_lc [("sign", 10)] rfl (nd_against B) (di_any (de_fld (ff_Book_letters Y) (de_var 0 rfl (.inr (.inl (by kernel_rfl)))))) (by kernel_rfl) (dg_name 10 (nd_against B) rfl (.inl (by kernel_rfl)) (.inr (by kernel_rfl))) dts_nil (de_int1 (by kernel_rfl) (fr_int Y) (dl_cons (de_cmp c_in (de_var 10 rfl (.inl (by kernel_rfl))) (de_var 9 rfl (.inr (.inl (by kernel_rfl))))) dl_nil)) (by decide))) dl_nil)) (by decide))) dl_nil)))))))))))
theorem k_against : FkA B 8 "against" 2 [] m_against_k17 := by
  obtain ⟨fd, Fu⟩ := Y.c.def_ 41 (d := dd_against) rfl
  exact fk_of (ps := ["book", "saying"]) Fu (He.glo_ok Y.kin Y.ns (Y.c.fact 39 (f := .glo "against") rfl)) (fn_den 7 none Fu sc_against (fun _ h => nomatch h) (d_against Y)) (Fu.bindsN fun _ _ _ _ _ _ us hl => by match us, hl with | [_, _], _ => rfl)
end
section
variable {B : Bs} (Y : Hy B)
include Y
theorem db_law_0 : DB (F_law B) (bodyAt (defBody s_law) [(.inl 4), (.inl 1)]) b_law_k17_0 :=
  (db_cons (ds_setX 8 (nd_law B) rfl (.inl (by kernel_rfl)) (.inl rfl) (k_against Y) (show 8 ≤ 8 from by decide) (by kernel_rfl) (dl_cons (de_var 4 rfl (.inl (by kernel_rfl))) (dl_cons (de_var 6 rfl (.inl (by kernel_rfl))) dl_nil))) (db_one (ds_if (dt_val (de_call (k__law_follows Y) (show 5 ≤ 8 from by decide) (by kernel_rfl) (dl_cons (de_var 2 rfl (.inl (by kernel_rfl))) (dl_cons (de_var 3 rfl (.inl (by kernel_rfl))) (dl_cons (de_var 6 rfl (.inl (by kernel_rfl))) dl_nil))))) (db_one (ds_if (dt_lend (dt_cmp c_isNot (de_var 8 rfl (.inl (by kernel_rfl))) de_non)) (db_one (ds_ret de_bl)) db_nil)) (db_cons (ds_if (dt_lend (dt_w (dw_or (dt_not (dt_val (de_call (k__law_is_table Y) (show 2 ≤ 8 from by decide) (by kernel_rfl) (dl_cons (de_var 8 rfl (.inl (by kernel_rfl))) (dl_cons (de_len (by kernel_rfl) (fr_len Y) (dl_cons (de_var 2 rfl (.inl (by kernel_rfl))) dl_nil)) dl_nil))))) (dw_or (dt_cmp c_gt (de_len (by kernel_rfl) (fr_len Y) (dl_cons (de_var 8 rfl (.inl (by kernel_rfl))) dl_nil)) de_int) (dw_or1 (dt_not (dt_val (de_call (k__law_keeps_all Y) (show 3 ≤ 8 from by decide) (by kernel_rfl) (dl_cons (de_var 8 rfl (.inl (by kernel_rfl))) (dl_cons (de_var 2 rfl (.inl (by kernel_rfl))) (dl_cons (de_var 3 rfl (.inl (by kernel_rfl))) dl_nil))))))))))) (db_one (ds_ret de_bl)) db_nil) (db_cons (ds_if (dt_lend (dt_cmp c_is (de_call (k__law_clash Y) (show 2 ≤ 8 from by decide) (by kernel_rfl) (dl_cons (de_var 8 rfl (.inl (by kernel_rfl))) (dl_cons (de_var 2 rfl (.inl (by kernel_rfl))) (dl_cons (de_var 6 rfl (.inl (by kernel_rfl))) dl_nil)))) de_non)) (db_one (ds_ret de_bl)) db_nil) (db_one (ds_clear 8 rfl (.inl (by kernel_rfl)))))))))
theorem db_law_1 : DB (F_law B) (bodyAt (defBody s_law) [(.inl 4)]) b_law_k17_1 :=
  (db_cons (ds_set 6 (nd_law B) rfl (.inl (by kernel_rfl)) (.inl rfl) (de_call (k__law_saying Y) (show 3 ≤ 8 from by decide) (by kernel_rfl) (dl_cons (de_var 1 rfl (.inl (by kernel_rfl))) (dl_cons (de_var 2 rfl (.inl (by kernel_rfl))) dl_nil)))) (db_one (ds_for rfl (di_range1 (by kernel_rfl) (fr_range Y) (dl_cons de_int dl_nil)) (dg_name 7 (nd_law B) rfl (.inl (by kernel_rfl)) (.inl rfl)) (db_law_0 Y))))
theorem d_law0 : DS (F_law B) ((defBody s_law).headD (.Pass ⟨0, 0, 0, 0⟩)) g0_law_k17 :=
  (ds_setF 1 (nd_law B) rfl (.inl (by kernel_rfl)) (.inl rfl) (df_call (k__law_start Y) (show 1 ≤ 8 from by decide) (by kernel_rfl) (dl_cons (de_var 0 rfl (.inl (by kernel_rfl))) dl_nil)))
theorem d_law : DB (F_law B) (defBody s_law).tail g_law_k17 :=
  (db_cons (ds_set 2 (nd_law B) rfl (.inl (by kernel_rfl)) (.inl rfl) (de_call (k__law_head Y) (show 3 ≤ 8 from by decide) (by kernel_rfl) (dl_cons (de_var 1 rfl (.inl (by kernel_rfl))) dl_nil))) (db_cons (ds_set 3 (nd_law B) rfl (.inl (by kernel_rfl)) (.inl rfl) (de_call (k__law_said Y) (show 4 ≤ 8 from by decide) (by kernel_rfl) (dl_cons (de_var 1 rfl (.inl (by kernel_rfl))) (dl_cons (de_var 2 rfl (.inl (by kernel_rfl))) (dl_cons de_int dl_nil))))) (db_cons (ds_set 4 (nd_law B) rfl (.inl (by kernel_rfl)) (.inl rfl) (de_frz (df_make (in_Book_2 Y) (show 5 + 1 ≤ 8 from by decide) runI_ins (by kernel_rfl) (dl_cons (de_var 2 rfl (.inl (by kernel_rfl))) (dl_cons (de_var 3 rfl (.inl (by kernel_rfl))) dl_nil))))) (db_cons (ds_for rfl (di_range1 (by kernel_rfl) (fr_range Y) (dl_cons de_int dl_nil)) (dg_name 5 (nd_law B) rfl (.inl (by kernel_rfl)) (.inl rfl)) (db_law_1 Y)) (db_one (ds_ret (de_cmp c_eq (de_meth0 (k_Book_sayings Y) (show 1 ≤ 8 from by decide) (de_var 4 rfl (.inl (by kernel_rfl)))) (de_var 3 rfl (.inl (by kernel_rfl))))))))))
end
end Qk17
end
section
namespace Qk17
open PySem L2 Dn Mi
def Math : Prop := ∀ ns : List Int, ns.length ≤ 63 → (∀ z ∈ ns, Builtin.Int.intBits z ≤ 1048576) → ∃ w', g_law_k17 ((.dat (.scr ns) :: List.replicate 8 .un).set 1 (.dat .wd)) (w0 ns) = .ret (.bl true) w'
theorem facts (math : Math) {w : World} {K : PySem.W.Frag} {h : Heap} {mg : Str → Option Value} {f : Addr} (X : K.In h) (G : h.Ns mainGlobals mg) (hfa : mg ("law" : Str) = some (.ref f)) (c : He.SaysX fa fn ts tf ex w h K) :
    LamX.LawAtS (PySem.Challenge.rw_saidonce_k17_whole_tables_against) w K (L2.CX (PySem.Challenge.rw_saidonce_k17_whole_tables_against).prog w) 9 63 "_law_script" mg f h := by
  have e := hfa.symm.trans (He.glo_ok X G (c.t.d.fact 40 (f := .glo "law") rfl))
  cases e
  obtain ⟨fd, Fu⟩ := c.t.d.def_ 42 (d := dd_law) rfl
  refine ⟨fd, tf.map (He.cT K), Dn.spLaw K 63 (tf.map (He.cT K)), fun p hp => ?_, fun p hp => ?_, fun p hp => ?_, fun s v => ?_, fun H a ns hl hb ht hs => ⟨a, ns, rfl, hl, hb, ht, hs, fun _ => rfl⟩, fun base hK hns htab => ?_⟩
  · obtain ⟨q, hq, rfl⟩ := List.mem_map.mp hp
    exact c.empty q hq
  · obtain ⟨q, hq, rfl⟩ := List.mem_map.mp hp
    exact c.out q hq
  · obtain ⟨q, hq, rfl⟩ := List.mem_map.mp hp
    exact PySem.W.codeHd_of_K X (c.hd q hq)
  · have b := FunD.bindsA (ps := ["_law_script"]) Fu fun _ _ _ _ _ _ us hl => by match us, hl with | [_], _ => rfl
    exact b s [v] rfl
  · have Y : Hy ⟨(PySem.Challenge.rw_saidonce_k17_whole_tables_against).prog, w, K, mg, base, clsOf K excs, tbs K⟩ := ⟨hK, hns, c.t.d, fun p hp => htab _ (List.mem_map.mpr ⟨p, hp, rfl⟩), rfl, c.more, rfl, congrArg (fun z : He.AlT => z.2) c.t⟩
    exact law_fn (N := ["_law_script", "_law_d", "_law_head_here", "_law_said_here", "_law_book", "_law_k", "_law_saying_here", "_law_again", "_law_got"]) (x := "_law_script") (n := 63) 8 none 1 Fu ⟨rfl, rfl, rfl, by decide +kernel, rfl, by decide +kernel, by decide +kernel⟩ (fun _ h => nomatch h) (d_law0 Y) (d_law Y)
      (fun p hp => htb_of hp) (fun ns w => by kernel_rfl) (by decide) (by decide) math
end Qk17
open PySem PySem.W PySem.Calls PyProof.Rows
theorem Qk17.holds (math : Qk17.Math) : PySem.Challenge.rw_saidonce_k17_whole_tables_against.Holds := by
  w_on; o_law
  refine HandSHeadRun.head_any (r := OpenLaw.row PySem.Challenge.rw_saidonce_k17_whole_tables_against) (q := view (OpenLaw.row PySem.Challenge.rw_saidonce_k17_whole_tables_against).prog [67]) (H := Qk17.hk) (ob := Qk17.ob) (M := 8000) (loose := Qk17.loose) (d := HandSHeadRun.topDef (OpenLaw.row PySem.Challenge.rw_saidonce_k17_whole_tables_against).prog 67) (kwd := []) Qk17.ob_eq
    (by kernel_rfl) (fun s => by kernel_rfl) Qk17.run (by kernel_rfl) (by kernel_rfl) (by kernel_rfl) (by rfl) (by first | assumption | decide +kernel) (by decide +kernel) ⟨rfl, rfl, rfl, rfl, rfl, by decide +kernel⟩ ?hw ?hc
  case hw => w_witness2
  case hc =>
    refine LamX.walk_ofTsE (l := PySem.Challenge.rw_saidonce_k17_whole_tables_against) (n := 63) (k := 9) (x := "_law_script") (CX := fun w => L2.CX (PySem.Challenge.rw_saidonce_k17_whole_tables_against).prog w) rfl (by decide) (by kernel_rfl) ⟨rfl, by decide, by decide⟩ ?F (fun _ _ _ _ _ z => ?_)
    · intro w mg fa h Y G hmg0
      obtain ⟨K, KX, c⟩ := Y
      have hmg : mg ("law" : PySem.Str) = some (.ref fa) := by
        have e : (HandSHeadRun.topDef (OpenLaw.row PySem.Challenge.rw_saidonce_k17_whole_tables_against).prog 67).name = ("law" : PySem.Str) := by kernel_rfl
        rw [← e]
        exact hmg0
      exact ⟨K, KX, Qk17.facts math KX G hmg c⟩
    · obtain ⟨a, B, H', cls, d, _, _, _, _, _, _, _, h⟩ := z
      exact h
end
section
/-! k17 -/
namespace Qk17
open PySem L2 Dn Mi
theorem fin_part {R : Tx} {ws : List Way} {P : List Tx} (a : Fin' R ws P) : Part R P := by
  rcases a with ⟨e1, e2⟩ | ⟨ne, r, _⟩
  · subst e1 e2
    exact ⟨fun _ h => (nomatch h), fun _ h => (nomatch h), fun _ h => (nomatch h), List.Pairwise.nil, rfl⟩
  · exact r.part ne
section
variable {h : Tx} {ss : List Say} {s : Say} {P : List Tx}
/-- what the told table is -/
theorem tbl_facts (H : Hd h) (sh : SayH h s) (ok : ∀ s ∈ ss, SayH h s) (hP : Fin' (withoutL h s.l) (waysL ss) P) (f : followF h ss s = false) :
    Bits h (againstF h (freeL ss s.l P)) ∧ sortRows (againstF h (freeL ss s.l P)) = againstF h (freeL ss s.l P) ∧ (againstF h (freeL ss s.l P)).length ≤ 64 ∧ (∀ x ∈ ss, kept h (syOf x) (againstF h (freeL ss s.l P))) ∧ ¬ kept h (syOf s) (againstF h (freeL ss s.l P)) := by
  have p := fin_part hP
  have st := hP.stable
  have t := against_tbl (h := h) (F := freeL ss s.l P)
  have fl : (freeL ss s.l P).length ≤ 6 := by
    have : (freeL ss s.l P).length ≤ P.length := List.length_filter_le _ _
    have := hP.few
    have := rest_len (p := s.l) H
    omega
  refine ⟨fun r hr => ?_, ?_, against_few fl, fun x hx => against_keeps H ok p st t hx, ?_⟩
  · obtain ⟨M, _, rfl⟩ := (t r).mp hr
    refine ⟨rowU_len, fun c hc => ?_⟩
    obtain ⟨d, _, rfl⟩ := List.mem_map.mp hc
    split
    · exact .inr rfl
    · exact .inl rfl
  · refine sorted_again (unions_nd _ _ ?_ (fun x hx => ?_) (fun x hx a ha c cx ca => ?_) (by simp))
    · exact List.Pairwise.sublist List.filter_sublist p.dis
    · obtain ⟨_, c, cx, _⟩ := free_in H ok p st hx
      exact ⟨c, cx, (free_off H ok p st hx cx).1⟩
    · rw [List.mem_singleton.mp ha] at ca
      cases ca
  · rw [← followF_eq H sh hP] at f
    unfold followB at f
    by_cases hw : s.w = tellsT
    · rw [if_pos (by simp [syOf, hw])] at f
      exact against_tells H ok p st t rfl sh.r hw f
    · rw [if_neg (by simp [syOf, hw])] at f
      obtain ⟨b, bP, n1, n2⟩ : ∃ b ∈ P, commonL b s.r ≠ [] ∧ commonL b s.r ≠ b := by
        refine Classical.byContradiction fun z => ?_
        have : madeB P s.r = true := by
          unfold madeB
          rw [List.all_eq_true]
          intro b bP
          have := Classical.not_and_iff_not_or_not.mp fun y => z ⟨b, bP, y⟩
          simp only [Classical.not_not] at this
          simpa using this
        exact absurd (show madeB P s.r = false from f) (by rw [this]; simp)
      exact against_parts H ok p st t rfl hw bP n1 n2
end
section
variable {ns : List Int} {h : Tx} {ss : List Say} {s : Say} {w : Ds} {k5 k7 k8 : Sl}
abbrev E (ns : List Int) (h : Tx) (ss : List Say) (k5 k6 k7 k8 : Sl) : Dn.Env := [.dat (.scr ns), .dat .wd, .dat (T h), .dat (LS ss), .dat (bookD h ss), k5, k6, k7, k8]
theorem turn0 (H : Hd h) (sh : SayH h s) (ok : ∀ s ∈ ss, SayH h s) (few : ss.length ≤ 100) : ∃ k8', b_law_k17_0 (E ns h ss k5 (.dat s.d) k7 k8) w = .nx (E ns h ss k5 (.dat s.d) k7 k8') w := by
  have hi := H.hi
  have lf := law_follows_ok (w := w) H sh ok few
  have cf : ∀ k, (gTst (gCall 3 [] m__law_follows (gCons (gVar 2) (gCons (gVar 3) (gCons (gVar 6) gNil))))) (E ns h ss k5 (.dat s.d) k7 k) w = .ok (followF h ss s) w := fun k => gTst_ok (gCall_dat (gaC (d := T h) rfl (gaC (d := LS ss) rfl (gaC (d := s.d) rfl gaN))) lf)
  cases f : followF h ss s with
  | true =>
    have a : (gCons (gVar 4) (gCons (gVar 6) gNil)) (E ns h ss k5 (.dat s.d) k7 k8) w = .ok [bookD h ss, s.d] w := ga2 (d := bookD h ss) (d' := s.d) rfl rfl
    have s1 : sSetX 8 2 [] m_against_k17 (gCons (gVar 4) (gCons (gVar 6) gNil)) (E ns h ss k5 (.dat s.d) k7 k8) w = .nx (E ns h ss k5 (.dat s.d) k7 (.dat .non)) w := by
      unfold sSetX
      rw [a]
      simp only [List.append_nil]
      rw [if_pos (show [bookD h ss, s.d].length = 2 from rfl), against_no H sh ok few f]
      rfl
    have v8 : gVar 8 (lendA (E ns h ss k5 (.dat s.d) k7 (.dat .non))) w = .ok .non w := by cases k5 <;> cases k7 <;> rfl
    exact ⟨.dat .non, sSeq_nx s1 (sIf_t (w1 := w) (by rw [cf, f]) (sIf_f (w1 := w) (gLendT_ok (gTst_ok (b := false) (gBin_ok (a := .non) (b := .non) v8 rfl rfl))) rfl))⟩
  | false =>
    obtain ⟨P, hP, e⟩ := against_yes (w := w) H sh ok few f
    obtain ⟨bits, srt, n64, kp, nk⟩ := tbl_facts H sh ok hP f
    generalize againstF h (freeL ss s.l P) = S at e bits srt n64 kp nk
    have len : ∀ r ∈ S, r.length = h.length := fun r hr => (bits r hr).1
    have okS : okRows S = true := (Tbl.mk len (by omega) (by omega)).ok
    have a : (gCons (gVar 4) (gCons (gVar 6) gNil)) (E ns h ss k5 (.dat s.d) k7 k8) w = .ok [bookD h ss, s.d] w := ga2 (d := bookD h ss) (d' := s.d) rfl rfl
    have s1 : sSetX 8 2 [] m_against_k17 (gCons (gVar 4) (gCons (gVar 6) gNil)) (E ns h ss k5 (.dat s.d) k7 k8) w = .nx (E ns h ss k5 (.dat s.d) k7 (.own (.lst (S.map rowD)))) w := by
      unfold sSetX
      rw [a]
      simp only [List.append_nil]
      rw [if_pos (show [bookD h ss, s.d].length = 2 from rfl), e]
      rfl
    let L : Dn.Env := E ns h ss k5 (.dat s.d) k7 (.dat (.lst (S.map rowD)))
    have lnd : ∀ {g : GT} {b : Bool}, g (lendA (E ns h ss k5 (.dat s.d) k7 (.own (.lst (S.map rowD))))) w = .ok b w → gLendT g (E ns h ss k5 (.dat s.d) k7 (.own (.lst (S.map rowD)))) w = .ok b w := fun z => gLendT_ok z
    have v8 : gVar 8 (lendA (E ns h ss k5 (.dat s.d) k7 (.own (.lst (S.map rowD))))) w = .ok (.lst (S.map rowD)) w := by cases k5 <;> cases k7 <;> rfl
    have v2 : gVar 2 (lendA (E ns h ss k5 (.dat s.d) k7 (.own (.lst (S.map rowD))))) w = .ok (T h) w := by cases k5 <;> cases k7 <;> rfl
    have v3 : gVar 3 (lendA (E ns h ss k5 (.dat s.d) k7 (.own (.lst (S.map rowD))))) w = .ok (LS ss) w := by cases k5 <;> cases k7 <;> rfl
    have v6 : gVar 6 (lendA (E ns h ss k5 (.dat s.d) k7 (.own (.lst (S.map rowD))))) w = .ok s.d w := by cases k5 <;> cases k7 <;> rfl
    have c1 : sIf (gLendT (gOr (gNot (gTst (gCall 2 [] m__law_is_table (gCons (gVar 8) (gCons (gArgs oLen (gCons (gVar 2) gNil)) gNil))))) (gOr (gTst (gBin oGt (gArgs oLen (gCons (gVar 8) gNil)) (gOk (.int 64)))) (gNot (gTst (gCall 3 [] m__law_keeps_all (gCons (gVar 8) (gCons (gVar 2) (gCons (gVar 3) gNil))))))))) (sRet (gOk (.bl false))) sSkip (E ns h ss k5 (.dat s.d) k7 (.own (.lst (S.map rowD)))) w = .nx (E ns h ss k5 (.dat s.d) k7 (.own (.lst (S.map rowD)))) w := by
      refine sIf_f (w1 := w) (lnd (gOr_ok (a := false) (b := false) (gNot_ok (a := true) (gTst_ok (gCall_dat (ga2 v8 (gArgs_ok (ga1 v2) (oLen_T (by omega)))) (m__law_is_table_eq okS bits srt (by omega))))) (gOr_ok (a := false) (b := false) (gTst_ok (gBin_ok (gArgs_ok (ga1 v8) (oLen_lst (by rw [List.length_map]; omega))) rfl ?_)) (gNot_ok (a := true) (gTst_ok (gCall_dat (gaC v8 (gaC v2 (gaC v3 gaN))) (m__law_keeps_all_eq H ok few len (by omega) kp))))))) rfl
      rw [oGt_int, List.length_map]
      congr 2
      exact decide_eq_false (by omega)
    have mc := m__law_clash_eq (w := w) (s := syOf s) (rows := S) len (by omega) (show s.l.length ≤ 1000 by have := sh.l.length_le; omega) (show s.r.length ≤ 1000 by have := sh.r.length_le; omega) (by omega)
    rw [syOf_d sh] at mc
    have c2 : sIf (gLendT (gTst (gBin oIs (gCall 3 [] m__law_clash (gCons (gVar 8) (gCons (gVar 2) (gCons (gVar 6) gNil)))) (gOk .non)))) (sRet (gOk (.bl false))) sSkip (E ns h ss k5 (.dat s.d) k7 (.own (.lst (S.map rowD)))) w = .nx (E ns h ss k5 (.dat s.d) k7 (.own (.lst (S.map rowD)))) w := by
      refine sIf_f (w1 := w) (lnd (gTst_ok (b := false) (gBin_ok (gCall_dat (gaC v8 (gaC v2 (gaC v6 gaN))) mc) rfl ((law_is len).trans ?_)))) rfl
      have : keepsB h (syOf s) S = false := by
        cases q : keepsB h (syOf s) S with
        | false => rfl
        | true => exact absurd ((keeps_iff len).mp q) nk
      rw [this]
    exact ⟨.own (.lst []), sSeq_nx s1 (sIf_f (w1 := w) (by rw [cf, f]) (sSeq_nx c1 (sSeq_nx c2 rfl)))⟩
theorem turn1 {k6 : Sl} (H : Hd h) (hw : Wk w) (ok : ∀ s ∈ ss, SayH h s) (few : ss.length ≤ 100) : ∃ k6' k7' k8' w', b_law_k17_1 (E ns h ss k5 k6 k7 k8) w = .nx (E ns h ss k5 k6' k7' k8') w' ∧ Wk w' := by
  obtain ⟨s, w1, e1, sh, hw1⟩ := saying_draw hw H
  have s6 : sSet 6 (gCall 2 [] m__law_saying (gCons (gVar 1) (gCons (gVar 2) gNil))) (E ns h ss k5 k6 k7 k8) w = .nx (E ns h ss k5 (.dat s.d) k7 k8) w1 := sSet_ok (hi := by show 6 < 9; decide) (gCall_dat (ga2 (d := .wd) (d' := T h) rfl rfl) e1)
  obtain ⟨e2, w2, e3, ⟨k7', k8', he⟩, hq⟩ := forG_inv (b := bName 7) (body := b_law_k17_0) (fun _ _ env w' => (∃ k7 k8, env = E ns h ss k5 (.dat s.d) k7 k8) ∧ w' = w1) (fun k : Nat => Dt.int (k : Int)) (List.range 2) (by
    intro pre x post env w' hx ⟨⟨k7, k8, he⟩, hq⟩
    subst he hq
    refine ⟨E ns h ss k5 (.dat s.d) (.dat (.int (x : Int))) k8, rfl, .inl ?_⟩
    obtain ⟨k8', e⟩ := turn0 (ns := ns) (k5 := k5) (k7 := .dat (.int (x : Int))) (k8 := k8) (w := w') H sh ok few
    exact ⟨_, w', e, ⟨_, _, rfl⟩, rfl⟩)
    (env := E ns h ss k5 (.dat s.d) k7 k8) (w := w1) ⟨⟨_, _, rfl⟩, rfl⟩
  subst he hq
  exact ⟨_, _, _, w2, sSeq_nx s6 (sFor_ok (gIts_ok (ga1 rfl) (oRng1_nat 2 (by decide))) e3), hw1⟩
end
theorem math : Math := fun ns hl _ => by
  obtain ⟨h, w1, e1, H, hw1⟩ := m__law_head_eq (w := w0 ns) ⟨hl⟩
  obtain ⟨ss, w2, e2, nd, few, ok, hw2⟩ := m__law_said_eq hw1 H (most := 8) (by decide)
  have mk : m_Book___init__ [T h, LS ss] w2 = .own (.ins "Book" (bookF h ss)) w2 := made_ok (dd := LS ss) H rfl ok (uniq_id nd) (by omega) (by omega)
  have a2 : sSet 2 (gCall 1 [] m__law_head (gCons (gVar 1) gNil)) [.dat (.scr ns), .dat .wd, .un, .un, .un, .un, .un, .un, .un] (w0 ns) = .nx [.dat (.scr ns), .dat .wd, .dat (T h), .un, .un, .un, .un, .un, .un] w1 := sSet_ok (hi := by show 2 < 9; decide) (gCall_dat (ga1 (d := .wd) rfl) e1)
  have a3 : sSet 3 (gCall 3 [] m__law_said (gCons (gVar 1) (gCons (gVar 2) (gCons (gOk (.int 8)) gNil)))) [.dat (.scr ns), .dat .wd, .dat (T h), .un, .un, .un, .un, .un, .un] w1 = .nx [.dat (.scr ns), .dat .wd, .dat (T h), .dat (LS ss), .un, .un, .un, .un, .un] w2 := sSet_ok (hi := by show 3 < 9; decide) (gCall_own (gaC (d := .wd) rfl (gaC (d := T h) rfl (gaC rfl gaN))) e2)
  have a4 : sSet 4 (gFrz (gCallF 2 [] m_Book___init__ (gCons (gVar 2) (gCons (gVar 3) gNil)))) [.dat (.scr ns), .dat .wd, .dat (T h), .dat (LS ss), .un, .un, .un, .un, .un] w2 = .nx (E ns h ss .un .un .un .un) w2 := sSet_ok (hi := by show 4 < 9; decide) (gFrz_ok (gCallF_own (ga2 (d := T h) (d' := LS ss) rfl rfl) mk))
  obtain ⟨e3, w3, e4, ⟨k5, k6, k7, k8, he⟩, hw3⟩ := forG_inv (b := bName 5) (body := b_law_k17_1) (fun _ _ env w => (∃ k5 k6 k7 k8, env = E ns h ss k5 k6 k7 k8) ∧ Wk w) (fun k : Nat => Dt.int (k : Int)) (List.range 5) (by
    intro pre x post env w hx ⟨⟨k5, k6, k7, k8, he⟩, hw⟩
    subst he
    refine ⟨E ns h ss (.dat (.int (x : Int))) k6 k7 k8, rfl, .inl ?_⟩
    obtain ⟨k6', k7', k8', w', e, hw'⟩ := turn1 (ns := ns) (k5 := .dat (.int (x : Int))) (k6 := k6) (k7 := k7) (k8 := k8) H hw ok (by omega)
    exact ⟨_, w', e, ⟨_, _, _, _, rfl⟩, hw'⟩)
    (env := E ns h ss .un .un .un .un) (w := w2) ⟨⟨_, _, _, _, rfl⟩, hw2⟩
  subst he
  refine ⟨w3, sSeq_nx a2 (sSeq_nx a3 (sSeq_nx a4 (sSeq_nx (sFor_ok (gIts_ok (ga1 rfl) (oRng1_nat 5 (by decide))) e4) (sRet_ok (gBin_ok (a := LS ss) (b := LS ss) (w1 := w3) (w2 := w3) (gCall_own (ga1 (d := bookD h ss) (gBind1_ok (a := bookD h ss) rfl rfl)) m_Book_sayings_eq) rfl ?_)))))⟩
  have lok : ∀ s ∈ ss, s.Ok := fun s hs => (ok s hs).ok H
  exact (oEq_LS lok lok).trans (by simp)
end Qk17
end
theorem PySem.Challenge.cw_saidonce_k17_whole_tables_against_holds : PySem.Challenge.rw_saidonce_k17_whole_tables_against.Holds := by
  exact Qk17.holds Qk17.math
